import PyProof.Rows.All
import Wide.All
import OpenK.AllK
import Wide.FinOn
import HandS.ForMost
import HandS.Style
import HandS.IsInst
import HandS.Walk
import HandS.TupMul
import HandS.Zip
import HandS.RaiseMore
import HandS.TupSets
import PyProof.TupleOfSeq
import PySem.Challenge.RW_manydeep_k67_whole_certificates_of_dista
import KE.GoesEnum
import KE.GoesZip
import HandS.Conv
import HandS.TupAny
import PyProof.FactsAll.tuple_2
import HandS.Defaults
import HandS.More
import HandS.Iter
import KE.KDictZip
import KE.KItemsList
import HandS.ListItems
section MdAPart
set_option Elab.async false
set_option linter.all false
set_option maxRecDepth 100000
set_option maxHeartbeats 2000000
/-! The heap hidden: data (Dat), what stands in the slots (W), readings over them (EC, ET, EA, SS). -/
namespace Md
open PySem L2

inductive Dat where
  | non | bl (b : Bool) | int (i : Int) | str (x : Str) | tup (ds : List Dat)

mutual
inductive Rep (H : Hp) : V → Dat → Prop
  | non : Rep H .non .non
  | bl (b : Bool) : Rep H (.bl b) (.bl b)
  | int (i : Int) : Rep H (.int i) (.int i)
  | str (x : Str) : Rep H (.str x) (.str x)
  | tup {a : Addr} {vs : List V} {ds : List Dat} (h : H a = some (.tup vs)) (r : Reps H vs ds) : Rep H (.ref a) (.tup ds)
inductive Reps (H : Hp) : List V → List Dat → Prop
  | nil : Reps H [] []
  | cons {v : V} {d : Dat} {vs : List V} {ds : List Dat} (h : Rep H v d) (t : Reps H vs ds) : Reps H (v :: vs) (d :: ds)
end
def TupK (H H' : Hp) : Prop := ∀ a xs, H a = some (.tup xs) → H' a = some (.tup xs)
theorem TupK.refl (H : Hp) : TupK H H := fun _ _ h => h
theorem TupK.trans {H H1 H2 : Hp} (a : TupK H H1) (b : TupK H1 H2) : TupK H H2 := fun x o h => b x o (a x o h)
mutual
theorem Rep.mono {H H' : Hp} (k : TupK H H') : ∀ {v : V} {d : Dat}, Rep H v d → Rep H' v d
  | _, _, .non => .non
  | _, _, .bl b => .bl b
  | _, _, .int i => .int i
  | _, _, .str x => .str x
  | _, _, .tup h r => .tup (k _ _ h) (Reps.mono k r)
theorem Reps.mono {H H' : Hp} (k : TupK H H') : ∀ {vs : List V} {ds : List Dat}, Reps H vs ds → Reps H' vs ds
  | _, _, .nil => .nil
  | _, _, .cons h t => .cons (Rep.mono k h) (Reps.mono k t)
end
section
variable {H : Hp} {v : V} {vs us : List V} {ds es : List Dat} {d : Dat}
theorem Reps.length : ∀ {vs : List V} {ds : List Dat}, Reps H vs ds → vs.length = ds.length
  | _, _, .nil => rfl
  | _, _, .cons _ t => by simp [Reps.length t]
theorem Reps.get : ∀ {vs : List V} {ds : List Dat} {i : Nat} {d : Dat}, Reps H vs ds → ds[i]? = some d → ∃ v, vs[i]? = some v ∧ Rep H v d
  | _, _, _, _, .nil, e => by simp at e
  | _, _, 0, _, .cons h _, e => by simp at e; subst e; exact ⟨_, rfl, h⟩
  | _, _, i + 1, _, .cons _ t, e => by
    obtain ⟨v, h1, h2⟩ := Reps.get (i := i) t (by simpa using e)
    exact ⟨v, by simpa using h1, h2⟩
theorem Reps.getV : ∀ {vs : List V} {ds : List Dat} {i : Nat} {v : V}, Reps H vs ds → vs[i]? = some v → ∃ d, ds[i]? = some d ∧ Rep H v d
  | _, _, _, _, .nil, e => by simp at e
  | _, _, 0, _, .cons h _, e => by simp at e; subst e; exact ⟨_, rfl, h⟩
  | _, _, i + 1, _, .cons _ t, e => by
    obtain ⟨v, h1, h2⟩ := Reps.getV (i := i) t (by simpa using e)
    exact ⟨v, by simpa using h1, h2⟩
theorem Reps.append : ∀ {vs us : List V} {ds es : List Dat}, Reps H vs ds → Reps H us es → Reps H (vs ++ us) (ds ++ es)
  | _, _, _, _, .nil, s => s
  | _, _, _, _, .cons h t, s => .cons h (Reps.append t s)
theorem Reps.one (h : Rep H v d) : Reps H [v] [d] := .cons h .nil
theorem Reps.set (h : Rep H v d) : ∀ {vs : List V} {ds : List Dat} (i : Nat), Reps H vs ds → Reps H (vs.set i v) (ds.set i d)
  | _, _, _, .nil => .nil
  | _, _, 0, .cons _ t => .cons h t
  | _, _, i + 1, .cons q t => .cons q (Reps.set h i t)
theorem Reps.take : ∀ {vs : List V} {ds : List Dat} (n : Nat), Reps H vs ds → Reps H (vs.take n) (ds.take n)
  | _, _, 0, _ => .nil
  | _, _, _ + 1, .nil => .nil
  | _, _, n + 1, .cons q t => .cons q (Reps.take n t)
theorem Reps.drop : ∀ {vs : List V} {ds : List Dat} (n : Nat), Reps H vs ds → Reps H (vs.drop n) (ds.drop n)
  | _, _, 0, r => r
  | _, _, _ + 1, .nil => .nil
  | _, _, n + 1, .cons _ t => Reps.drop n t
theorem Reps.eraseIdx : ∀ {vs : List V} {ds : List Dat} (n : Nat), Reps H vs ds → Reps H (vs.eraseIdx n) (ds.eraseIdx n)
  | _, _, _, .nil => .nil
  | _, _, 0, .cons _ t => t
  | _, _, n + 1, .cons q t => .cons q (Reps.eraseIdx n t)
theorem Reps.reverse (r : Reps H vs ds) : Reps H vs.reverse ds.reverse := by
  induction vs generalizing ds with
  | nil => cases r; exact .nil
  | cons v t ih =>
    cases r with
    | cons h t => rw [List.reverse_cons, List.reverse_cons]; exact (ih t).append (.one h)
theorem Reps.of_get : ∀ {vs : List V} {ds : List Dat}, vs.length = ds.length → (∀ (i : Nat) v d, vs[i]? = some v → ds[i]? = some d → Rep H v d) → Reps H vs ds
  | [], [], _, _ => .nil
  | [], _ :: _, h, _ => by simp at h
  | _ :: _, [], h, _ => by simp at h
  | v :: vs, d :: ds, h, f => .cons (f 0 v d rfl rfl) (Reps.of_get (by simpa using h) fun i x y h1 h2 => f (i + 1) x y (by simpa using h1) (by simpa using h2))
theorem Reps.ints : ∀ {ns : List Int} {vs : List V}, Reps H vs (ns.map Dat.int) → vs = ns.map V.int
  | [], _, .nil => rfl
  | n :: ns, _, .cons h t => by cases h; rw [Reps.ints t]; rfl
theorem Reps.bls : ∀ {ns : List Bool} {vs : List V}, Reps H vs (ns.map Dat.bl) → vs = ns.map V.bl
  | [], _, .nil => rfl
  | n :: ns, _, .cons h t => by cases h; rw [Reps.bls t]; rfl
theorem reps_ints (H : Hp) : ∀ ns : List Int, Reps H (ns.map V.int) (ns.map Dat.int)
  | [] => .nil
  | n :: ns => .cons (.int n) (reps_ints H ns)
end

/-- a dict's entries, keys whole numbers -/
inductive RepK (H : Hp) : List (Key × V) → List (Int × Dat) → Prop
  | nil : RepK H [] []
  | cons {i : Int} {v : V} {d : Dat} {ks : List (Key × V)} {kd : List (Int × Dat)} (h : Rep H v d) (t : RepK H ks kd) : RepK H ((Sum.inl i, v) :: ks) ((i, d) :: kd)
theorem RepK.mono {H H' : Hp} (k : TupK H H') {ks : List (Key × V)} {kd : List (Int × Dat)} (r : RepK H ks kd) : RepK H' ks kd := by
  induction r with
  | nil => exact .nil
  | cons h t ih => exact .cons (h.mono k) ih
theorem RepK.length {H : Hp} {ks : List (Key × V)} {kd : List (Int × Dat)} (r : RepK H ks kd) : ks.length = kd.length := by
  induction r with
  | nil => rfl
  | cons h t ih => simp [ih]

/-! ### frames: what may change under a call (the law's deck), and what holds of it -/
structure Fr where
  d : Addr
  M : Addr → Prop
  I : Hp → Prop
  tr : ∀ H a, I H → M a → ∃ o, H a = some o
  mono : ∀ H H', (∀ a o, M a → H a = some o → H' a = some o) → I H → I H'
def F0 : Fr := ⟨0, fun _ => False, fun _ => True, fun _ _ _ h => h.elim, fun _ _ _ _ => trivial⟩
structure Ext (F : Fr) (H H' : Hp) : Prop where
  keep : ∀ a o, ¬ F.M a → H a = some o → H' a = some o
  tup : TupK H H'
theorem Ext.refl (F : Fr) (H : Hp) : Ext F H H := ⟨fun _ _ _ h => h, .refl H⟩
theorem Ext.trans {F : Fr} {H H1 H2 : Hp} (a : Ext F H H1) (b : Ext F H1 H2) : Ext F H H2 := ⟨fun x o n h => b.keep x o n (a.keep x o n h), a.tup.trans b.tup⟩
theorem Ext.of_ex {F : Fr} {H H' : Hp} (h : ∀ a o, H a = some o → H' a = some o) : Ext F H H' := ⟨fun a o _ e => h a o e, fun a xs e => h a _ e⟩
theorem Ext.new {F : Fr} {H : Hp} {p : Addr} {o : HO} (h : H p = none) : Ext F H (upd H p o) := .of_ex fun a u e => by
  rw [upd_ne (ne_of_none e h)]
  exact e
theorem Ext.f0 {F : Fr} {H H' : Hp} (h : Ext F0 H H') : Ext F H H' := .of_ex fun a o e => h.keep a o (fun z => z) e
theorem Ext.inv {F : Fr} {H H' : Hp} (h : Ext F0 H H') (i : F.I H) : F.I H' := F.mono H H' (fun a o _ e => h.keep a o (fun z => z) e) i
theorem ext_new {H : Hp} {p : Addr} {o : HO} (h : H p = none) : Ext F0 H (upd H p o) := Ext.new h
theorem fresh0 {F : Fr} {H H' : Hp} (e : Ext F H H') {p : Addr} (m : ¬ F.M p) (h : H' p = none) : H p = none := by
  cases h1 : H p with
  | none => rfl
  | some o =>
    rw [e.keep p o m h1] at h
    cases h
theorem Fr.fresh {F : Fr} {H : Hp} (i : F.I H) {p : Addr} (h : H p = none) : ¬ F.M p := fun m => by
  obtain ⟨o, e⟩ := F.tr H p i m
  rw [h] at e
  cases e

/-! ### what a slot holds -/
inductive W where
  | d (x : Dat)
  | lst (own : Bool) (ds : List Dat)
  | dic (own : Bool) (kd : List (Int × Dat))
  | deck
def W.own : W → Bool
  | .lst o _ => o
  | .dic o _ => o
  | _ => false
def W.mu : W → Bool
  | .lst _ _ => true
  | .dic _ _ => true
  | _ => false
/-- new or data -/
def W.res : W → Bool
  | .lst o _ => o
  | .dic o _ => o
  | _ => true
def W.rd : W → W
  | .lst _ x => .lst false x
  | .dic _ x => .dic false x
  | w => w
def RepW (F : Fr) (H0 H : Hp) (v : V) : W → Prop
  | .d x => Rep H v x
  | .lst own ds => ∃ a vs, v = .ref a ∧ H a = some (.lst vs) ∧ Reps H vs ds ∧ ¬ F.M a ∧ (own = true → H0 a = none)
  | .dic own kd => ∃ a ks, v = .ref a ∧ H a = some (.dK ks) ∧ RepK H ks kd ∧ ¬ F.M a ∧ (own = true → H0 a = none)
  | .deck => v = .ref F.d
section
variable {F : Fr} {H0 H H1 H2 : Hp} {v : V} {w : W}
theorem RepW.step (r : RepW F H0 H v w) (e : Ext F H H2) : RepW F H0 H2 v w := by
  cases w with
  | d x => exact Rep.mono e.tup r
  | lst own ds => obtain ⟨a, vs, h1, h2, h3, h4, h5⟩ := r; exact ⟨a, vs, h1, e.keep a _ h4 h2, h3.mono e.tup, h4, h5⟩
  | dic own kd => obtain ⟨a, vs, h1, h2, h3, h4, h5⟩ := r; exact ⟨a, vs, h1, e.keep a _ h4 h2, h3.mono e.tup, h4, h5⟩
  | deck => exact r
theorem RepW.back (r : RepW F H1 H2 v w) (e : Ext F H H1) : RepW F H H2 v w := by
  cases w with
  | d x => exact r
  | lst own ds => obtain ⟨a, vs, h1, h2, h3, h4, h5⟩ := r; exact ⟨a, vs, h1, h2, h3, h4, fun o => fresh0 e h4 (h5 o)⟩
  | dic own kd => obtain ⟨a, vs, h1, h2, h3, h4, h5⟩ := r; exact ⟨a, vs, h1, h2, h3, h4, fun o => fresh0 e h4 (h5 o)⟩
  | deck => exact r
theorem RepW.rd (r : RepW F H0 H v w) : RepW F H1 H v w.rd := by
  cases w with
  | d x => exact r
  | lst own ds => obtain ⟨a, vs, h1, h2, h3, h4, h5⟩ := r; exact ⟨a, vs, h1, h2, h3, h4, fun o => nomatch o⟩
  | dic own kd => obtain ⟨a, vs, h1, h2, h3, h4, h5⟩ := r; exact ⟨a, vs, h1, h2, h3, h4, fun o => nomatch o⟩
  | deck => exact r
/-- out of a pure call -/
theorem RepW.f0 (r : RepW F0 H H2 v w) (i : F.I H) (hw : w.res = true) (hd : w ≠ .deck) : RepW F H H2 v w := by
  cases w with
  | d x => exact r
  | lst own ds => obtain ⟨a, vs, h1, h2, h3, h4, h5⟩ := r; exact ⟨a, vs, h1, h2, h3, F.fresh i (h5 hw), h5⟩
  | dic own kd => obtain ⟨a, vs, h1, h2, h3, h4, h5⟩ := r; exact ⟨a, vs, h1, h2, h3, F.fresh i (h5 hw), h5⟩
  | deck => exact absurd rfl hd
theorem RepW.to0 (r : RepW F H0 H v w) (hd : w ≠ .deck) : RepW F0 H0 H v w := by
  cases w with
  | d x => exact r
  | lst own ds => obtain ⟨a, vs, h1, h2, h3, h4, h5⟩ := r; exact ⟨a, vs, h1, h2, h3, fun z => z, h5⟩
  | dic own kd => obtain ⟨a, vs, h1, h2, h3, h4, h5⟩ := r; exact ⟨a, vs, h1, h2, h3, fun z => z, h5⟩
  | deck => exact absurd rfl hd
end

/-- what is known of the slots -/
abbrev Env1 := List (Option W)
structure Kn (F : Fr) (H0 H : Hp) (σ : L2.St) (ρ : Env1) : Prop where
  ext : Ext F H0 H
  inv : F.I H
  len : σ.length = ρ.length
  get : ∀ (i : Nat) (w : W), ρ[i]? = some (some w) → ∃ v, σ[i]? = some (some v) ∧ RepW F H0 H v w
  sep : ∀ (i j : Nat) (w w' : W) (a : Addr), i ≠ j → ρ[i]? = some (some w) → ρ[j]? = some (some w') → w.own = true → w'.mu = true → σ[i]? = some (some (.ref a)) → σ[j]? = some (some (.ref a)) → False
section
variable {F : Fr} {H0 H H1 H2 : Hp} {σ : L2.St} {ρ : Env1} {v : V} {w : W}
theorem Kn.step (k : Kn F H0 H σ ρ) (e : Ext F H H2) (i : F.I H2) : Kn F H0 H2 σ ρ :=
  ⟨k.ext.trans e, i, k.len, fun j w h => let ⟨v, h1, h2⟩ := k.get j w h; ⟨v, h1, h2.step e⟩, k.sep⟩
theorem Kn.drop (k : Kn F H0 H σ ρ) (i : Nat) : Kn F H0 H (σ.set i none) (ρ.set i none) := by
  have pick : ∀ (j : Nat) (w : W), (ρ.set i none)[j]? = some (some w) → j ≠ i ∧ ρ[j]? = some (some w) := fun j w h => by
    by_cases hj : j = i
    · subst hj
      by_cases hl : j < ρ.length
      · rw [List.getElem?_set_self hl] at h; cases h
      · rw [List.getElem?_eq_none (by simpa using hl)] at h; cases h
    · exact ⟨hj, by rwa [List.getElem?_set_ne (Ne.symm hj)] at h⟩
  refine ⟨k.ext, k.inv, by simp [k.len], fun j w h => ?_, fun a b w w' x ne ha hb ho hm h1 h2 => ?_⟩
  · obtain ⟨n, h'⟩ := pick j w h
    obtain ⟨v, h1, h2⟩ := k.get j w h'
    exact ⟨v, by rw [List.getElem?_set_ne (Ne.symm n)]; exact h1, h2⟩
  · obtain ⟨n1, ha'⟩ := pick a w ha
    obtain ⟨n2, hb'⟩ := pick b w' hb
    rw [List.getElem?_set_ne (Ne.symm n1)] at h1
    rw [List.getElem?_set_ne (Ne.symm n2)] at h2
    exact k.sep a b w w' x ne ha' hb' ho hm h1 h2
def wipeR (ρ : Env1) : List Nat → Env1
  | [] => ρ
  | v :: vs => (wipeR ρ vs).set v none
theorem Kn.wipe (k : Kn F H0 H σ ρ) : ∀ vs : List Nat, Kn F H0 H (wipe σ vs) (wipeR ρ vs)
  | [] => k
  | v :: vs => (k.wipe vs).drop v
/-- forgetting -/
theorem Kn.weak {ρ' : Env1} (k : Kn F H0 H σ ρ) (hl : ρ'.length = ρ.length) (h : ∀ (i : Nat) (w : W), ρ'[i]? = some (some w) → ρ[i]? = some (some w)) : Kn F H0 H σ ρ' :=
  ⟨k.ext, k.inv, k.len.trans hl.symm, fun i w e => k.get i w (h i w e), fun i j w w' a ne h1 h2 => k.sep i j w w' a ne (h i w h1) (h j w' h2)⟩
/-- the address of a mutable -/
theorem RepW.addr (r : RepW F H0 H v w) (m : w.mu = true) : ∃ a o, v = .ref a ∧ H a = some o ∧ ¬ F.M a ∧ (w.own = true → H0 a = none) := by
  cases w with
  | d x => cases m
  | lst own ds => obtain ⟨a, vs, h1, h2, h3, h4, h5⟩ := r; exact ⟨a, _, h1, h2, h4, h5⟩
  | dic own kd => obtain ⟨a, vs, h1, h2, h3, h4, h5⟩ := r; exact ⟨a, _, h1, h2, h4, h5⟩
  | deck => cases m
theorem W.own_mu (h : w.own = true) : w.mu = true := by cases w <;> first | rfl | cases h
/-- storing what is new or data -/
theorem Kn.set (k : Kn F H0 H σ ρ) (e : Ext F H H2) (i2 : F.I H2) (r : RepW F H H2 v w) (hw : w.res = true) (i : Nat) : Kn F H0 H2 (σ.set i (some v)) (ρ.set i (some w)) := by
  have pick : ∀ (j : Nat) (u : W), (ρ.set i (some w))[j]? = some (some u) → (j = i ∧ i < ρ.length ∧ u = w) ∨ (j ≠ i ∧ ρ[j]? = some (some u)) := fun j u h => by
    by_cases hj : j = i
    · subst hj
      by_cases hl : j < ρ.length
      · rw [List.getElem?_set_self hl] at h; cases h; exact .inl ⟨rfl, hl, rfl⟩
      · rw [List.getElem?_eq_none (by simpa using hl)] at h; cases h
    · exact .inr ⟨hj, by rwa [List.getElem?_set_ne (Ne.symm hj)] at h⟩
  -- the new one's address is none of the old ones'
  have apart : ∀ (j : Nat) (u : W) (a : Addr), ρ[j]? = some (some u) → u.mu = true → w.mu = true → σ[j]? = some (some (.ref a)) → v = .ref a → False := fun j u a hj hu hm hs hv => by
    have ho : w.own = true := by
      cases w with
      | d x => cases hm
      | lst own ds => exact hw
      | dic own ds => exact hw
      | deck => cases hm
    obtain ⟨b, o, hb, _, hM, hn⟩ := r.addr hm
    obtain ⟨v', h1, h2⟩ := k.get j u hj
    obtain ⟨c, o', hc, h3, _⟩ := h2.addr hu
    rw [hs] at h1
    cases h1
    cases hc
    rw [hv] at hb
    cases hb
    rw [hn ho] at h3
    cases h3
  refine ⟨k.ext.trans e, i2, by simp [k.len], fun j u h => ?_, fun a b u u' x ne ha hb ho hm h1 h2 => ?_⟩
  · rcases pick j u h with ⟨rfl, hl, rfl⟩ | ⟨n, h'⟩
    · exact ⟨v, by rw [List.getElem?_set_self (by rw [k.len]; exact hl)], r.back k.ext⟩
    · obtain ⟨v', h1, h2⟩ := k.get j u h'
      exact ⟨v', by rw [List.getElem?_set_ne (Ne.symm n)]; exact h1, h2.step e⟩
  · rcases pick a u ha with ⟨rfl, hl, rfl⟩ | ⟨n, ha'⟩
    · rcases pick b u' hb with ⟨rfl, _, _⟩ | ⟨n', hb'⟩
      · exact ne rfl
      · rw [List.getElem?_set_self (by rw [k.len]; exact hl)] at h1
        rw [List.getElem?_set_ne (Ne.symm n')] at h2
        exact apart b u' x hb' hm (W.own_mu ho) h2 (Option.some.inj (Option.some.inj h1))
    · rcases pick b u' hb with ⟨rfl, hl, rfl⟩ | ⟨n', hb'⟩
      · rw [List.getElem?_set_self (by rw [k.len]; exact hl)] at h2
        rw [List.getElem?_set_ne (Ne.symm n)] at h1
        exact apart a u x ha' (W.own_mu ho) hm h1 (Option.some.inj (Option.some.inj h2))
      · rw [List.getElem?_set_ne (Ne.symm n)] at h1
        rw [List.getElem?_set_ne (Ne.symm n')] at h2
        exact k.sep a b u u' x ne ha' hb' ho hm h1 h2
end
end Md
end MdAPart
section MdBPart
set_option Elab.async false
set_option linter.all false
set_option maxRecDepth 100000
set_option maxHeartbeats 2000000
/-! Expressions over the hidden heap. -/
namespace Md
open PySem L2

/-- the canonical readings -/
def cE (X : Cx) (e : Expr) : TE := fun σ H Q => ∀ pins s, Inv X pins σ H s → wpAny (model X.prog X.w) X.A (eval e X.env) (EP X pins σ Q) X.xe s
def cT (X : Cx) (e : Expr) : TT := fun σ H Q => ∀ pins s, Inv X pins σ H s → wpAny (model X.prog X.w) X.A (isTrue e X.env (eval e X.env)) (TP X pins σ Q) X.xe s
def cA (X : Cx) (es : List Expr) : TA := fun σ H Q => ∀ pos pins s, Inv X pins σ H s → wpAny (model X.prog X.w) X.A (spliced (backTo pos (starEach es X.env))) (AP X pins σ Q) X.xe s
theorem cE.pe (X : Cx) (e : Expr) : PE X e (cE X e) := ⟨fun pins s σ H Q I h => h pins s I⟩
theorem cT.pt (X : Cx) (e : Expr) : PT X e (cT X e) := ⟨fun pins s σ H Q I h => h pins s I⟩
theorem cA.pa (X : Cx) (es : List Expr) : PA X es (cA X es) := ⟨fun pos pins s σ H Q I h => h pos pins s I⟩
theorem PE.c {X : Cx} {e : Expr} {t : TE} (h : PE X e t) {σ : L2.St} {H : Hp} {Q : VK} (q : t σ H Q) : cE X e σ H Q := fun pins s I => h.run pins s σ H Q I q
theorem PT.c {X : Cx} {e : Expr} {t : TT} (h : PT X e t) {σ : L2.St} {H : Hp} {Q : Bool → Hp → Prop} (q : t σ H Q) : cT X e σ H Q := fun pins s I => h.run pins s σ H Q I q
theorem PA.c {X : Cx} {es : List Expr} {t : TA} (h : PA X es t) {σ : L2.St} {H : Hp} {Q : List V → Hp → Prop} (q : t σ H Q) : cA X es σ H Q := fun pos pins s I => h.run pos pins s σ H Q I q

theorem repD {F : Fr} {H0 H : Hp} {v : V} {x : Dat} (h : Rep H v x) : RepW F H0 H v (.d x) := h
/-- e gives a w with Φ -/
def EC (F : Fr) (X : Cx) (e : Expr) (ρ : Env1) (Φ : W → Prop) : Prop := ∀ H0 H σ, Kn F H0 H σ ρ → ∀ Q : VK, (∀ v H2 w, Ext F H H2 → F.I H2 → RepW F H H2 v w → Φ w → Q v H2) → cE X e σ H Q
def ET (F : Fr) (X : Cx) (e : Expr) (ρ : Env1) (Φ : Bool → Prop) : Prop := ∀ H0 H σ, Kn F H0 H σ ρ → ∀ Q : Bool → Hp → Prop, (∀ b H2, Ext F H H2 → F.I H2 → Φ b → Q b H2) → cT X e σ H Q
inductive RepWs (F : Fr) (H0 H : Hp) : List V → List W → Prop
  | nil : RepWs F H0 H [] []
  | cons {v : V} {w : W} {vs : List V} {ws : List W} (h : RepW F H0 H v w) (t : RepWs F H0 H vs ws) : RepWs F H0 H (v :: vs) (w :: ws)
def EA (F : Fr) (X : Cx) (es : List Expr) (ρ : Env1) (Φ : List W → Prop) : Prop := ∀ H0 H σ, Kn F H0 H σ ρ → ∀ Q : List V → Hp → Prop, (∀ vs H2 ws, Ext F H H2 → F.I H2 → RepWs F H H2 vs ws → Φ ws → Q vs H2) → cA X es σ H Q
abbrev Ev (F : Fr) (X : Cx) (e : Expr) (ρ : Env1) (w : W) : Prop := EC F X e ρ fun u => u = w
abbrev EvT (F : Fr) (X : Cx) (e : Expr) (ρ : Env1) (b : Bool) : Prop := ET F X e ρ fun c => c = b
abbrev EvA (F : Fr) (X : Cx) (es : List Expr) (ρ : Env1) (ws : List W) : Prop := EA F X es ρ fun us => us = ws
section
variable {F : Fr} {X : Cx} {ρ : Env1} {H0 H H1 H2 : Hp} {σ : L2.St}
theorem RepWs.step {vs : List V} {ws : List W} (r : RepWs F H0 H vs ws) (e : Ext F H H2) : RepWs F H0 H2 vs ws := by
  induction r with
  | nil => exact .nil
  | cons h t ih => exact .cons (h.step e) ih
theorem RepWs.back {vs : List V} {ws : List W} (r : RepWs F H1 H2 vs ws) (e : Ext F H H1) : RepWs F H H2 vs ws := by
  induction r with
  | nil => exact .nil
  | cons h t ih => exact .cons (h.back e) ih
theorem EC.to {e : Expr} {Φ Ψ : W → Prop} (h : EC F X e ρ Φ) (k : ∀ w, Φ w → Ψ w) : EC F X e ρ Ψ := fun H0 H σ kn Q q => h H0 H σ kn Q fun v H2 w a b c d => q v H2 w a b c (k w d)
theorem ET.to {e : Expr} {Φ Ψ : Bool → Prop} (h : ET F X e ρ Φ) (k : ∀ w, Φ w → Ψ w) : ET F X e ρ Ψ := fun H0 H σ kn Q q => h H0 H σ kn Q fun b H2 a c d => q b H2 a c (k b d)
theorem EA.to {es : List Expr} {Φ Ψ : List W → Prop} (h : EA F X es ρ Φ) (k : ∀ w, Φ w → Ψ w) : EA F X es ρ Ψ := fun H0 H σ kn Q q => h H0 H σ kn Q fun v H2 w a b c d => q v H2 w a b c (k w d)
theorem Ev.then {e : Expr} {w : W} {Φ : W → Prop} (h : Ev F X e ρ w) (k : Φ w) : EC F X e ρ Φ := EC.to h fun u e => by subst e; exact k
theorem EvT.then {e : Expr} {b : Bool} {Φ : Bool → Prop} (h : EvT F X e ρ b) (k : Φ b) : ET F X e ρ Φ := ET.to h fun u e => by subst e; exact k
theorem EvA.then {e : List Expr} {b : List W} {Φ : List W → Prop} (h : EvA F X e ρ b) (k : Φ b) : EA F X e ρ Φ := EA.to h fun u e => by subst e; exact k
theorem Ev.is {e : Expr} {w u : W} (h : Ev F X e ρ w) (k : w = u) : Ev F X e ρ u := by subst k; exact h
theorem EvT.is {e : Expr} {w u : Bool} (h : EvT F X e ρ w) (k : w = u) : EvT F X e ρ u := by subst k; exact h

/-- run one expression, go on: the tool of the rules' proofs -/
theorem EC.run {e : Expr} {Φ : W → Prop} (h : EC F X e ρ Φ) (k : Kn F H0 H σ ρ) {Q : VK} (q : ∀ v H2 w, Ext F H H2 → Kn F H0 H2 σ ρ → RepW F H H2 v w → Φ w → Q v H2) : cE X e σ H Q :=
  h H0 H σ k Q fun v H2 w a b c d => q v H2 w a (k.step a b) c d
theorem ET.run {e : Expr} {Φ : Bool → Prop} (h : ET F X e ρ Φ) (k : Kn F H0 H σ ρ) {Q : Bool → Hp → Prop} (q : ∀ b H2, Ext F H H2 → Kn F H0 H2 σ ρ → Φ b → Q b H2) : cT X e σ H Q :=
  h H0 H σ k Q fun v H2 a b d => q v H2 a (k.step a b) d
theorem EA.run {e : List Expr} {Φ : List W → Prop} (h : EA F X e ρ Φ) (k : Kn F H0 H σ ρ) {Q : List V → Hp → Prop} (q : ∀ v H2 w, Ext F H H2 → Kn F H0 H2 σ ρ → RepWs F H H2 v w → Φ w → Q v H2) : cA X e σ H Q :=
  h H0 H σ k Q fun v H2 w a b c d => q v H2 w a (k.step a b) c d

/-! ### names, constants -/
theorem ev_var {i : Nat} {x : Str} {pos : Pos} {w : W} (hi : X.N[i]? = some x) (hv : Vis X.env.scope x) (hw : ρ[i]? = some (some w)) (hd : (x == ("__debug__" : Str)) = false := by decide) (hcd : (x == ("__classdict__" : Str)) = false := by decide) :
    Ev F X (.Name x pos) ρ w.rd := fun H0 H σ k Q q => by
  obtain ⟨v, h1, h2⟩ := k.get i w hw
  exact PE.c (pe_var hi hv hd hcd) ⟨v, h1, q v H _ (.refl F H) k.inv h2.rd rfl⟩
theorem ev_int {i : Int} {j pos} : Ev F X (.Constant (.int i) j pos) ρ (.d (.int i)) := fun H0 H σ k Q q => PE.c pe_int (q _ H _ (.refl F H) k.inv (repD (Rep.int i)) rfl)
theorem ev_bl {b : Bool} {j pos} : Ev F X (.Constant (.bool b) j pos) ρ (.d (.bl b)) := fun H0 H σ k Q q => PE.c pe_bl (q _ H _ (.refl F H) k.inv (repD (Rep.bl b)) rfl)
theorem ev_non {j pos} : Ev F X (.Constant .none j pos) ρ (.d .non) := fun H0 H σ k Q q => PE.c pe_non (q _ H _ (.refl F H) k.inv (repD .non) rfl)
theorem ev_str {x : Str} {j pos} : Ev F X (.Constant (.str x) j pos) ρ (.d (.str x)) := fun H0 H σ k Q q => PE.c pe_str (q _ H _ (.refl F H) k.inv (repD (Rep.str x)) rfl)
/-- a module's int -/
theorem ev_glob {x : Str} {i : Int} {t : Tok} {pos : Pos} (hg : Gl X x) (hm : X.mg x = some (.int i t)) (hd : (x == ("__debug__" : Str)) = false := by decide) : Ev F X (.Name x pos) ρ (.d (.int i)) := fun H0 H σ k Q q =>
  PE.c (pe_glob (v := .int i) hg hm ⟨t, rfl⟩ hd) (q _ H _ (.refl F H) k.inv (repD (Rep.int i)) rfl)

/-! ### operators -/
variable {a b c : Expr} {pos : Pos}
/-- the rule behind the others -/
theorem ec_op {op : Operator} {r : R2} {Φ : W → Prop} (ho : OpR X (binaryOp op) r)
    (h : EC F X a ρ fun wa => EC F X b ρ fun wb => ∀ H H1 va vb (Q : VK), F.I H1 → RepW F H H1 va wa → RepW F H H1 vb wb → (∀ v H2 w, Ext F H1 H2 → F.I H2 → RepW F H1 H2 v w → Φ w → Q v H2) → r va vb H1 Q) : EC F X (.BinOp a op b pos) ρ Φ := fun H0 H σ k Q q =>
  PE.c (pe_op ho (cE.pe X a) (cE.pe X b)) (h.run k fun va H1 wa e1 k1 r1 p1 => p1.run k1 fun vb H2 wb e2 k2 r2 p2 => p2 H H2 va vb Q k2.inv (r1.step e2) (r2.back e1) fun v H3 w e3 i3 r3 p3 => q v H3 w ((e1.trans e2).trans e3) i3 (r3.back (e1.trans e2)) p3)
theorem ec_cmp {op : CmpOp} {r : R2} {Φ : W → Prop} (ho : OpR X (compareOp op) r) (hm : behindInMarks op b = false)
    (h : EC F X a ρ fun wa => EC F X b ρ fun wb => ∀ H H1 va vb (Q : VK), F.I H1 → RepW F H H1 va wa → RepW F H H1 vb wb → (∀ v H2 w, Ext F H1 H2 → F.I H2 → RepW F H1 H2 v w → Φ w → Q v H2) → r va vb H1 Q) : EC F X (.Compare a [op] [b] pos) ρ Φ := fun H0 H σ k Q q =>
  PE.c (pe_cmpR ho (cE.pe X a) (cE.pe X b) hm) (h.run k fun va H1 wa e1 k1 r1 p1 => p1.run k1 fun vb H2 wb e2 k2 r2 p2 => p2 H H2 va vb Q k2.inv (r1.step e2) (r2.back e1) fun v H3 w e3 i3 r3 p3 => q v H3 w ((e1.trans e2).trans e3) i3 (r3.back (e1.trans e2)) p3)
theorem et_cmp {op : CmpOp} {r : R2} {Φ : Bool → Prop} (ho : OpR X (compareOp op) r) (hm : behindInMarks op b = false)
    (h : EC F X a ρ fun wa => EC F X b ρ fun wb => ∀ H H1 va vb (Q : VK), F.I H1 → RepW F H H1 va wa → RepW F H H1 vb wb → (∀ k H2, Ext F H1 H2 → F.I H2 → Φ k → Q (.bl k) H2) → r va vb H1 Q) : ET F X (.Compare a [op] [b] pos) ρ Φ := fun H0 H σ k Q q =>
  PT.c (pt_cmpR ho (cE.pe X a) (cE.pe X b) hm) (h.run k fun va H1 wa e1 k1 r1 p1 => p1.run k1 fun vb H2 wb e2 k2 r2 p2 => p2 H H2 va vb _ k2.inv (r1.step e2) (r2.back e1) fun c H3 e3 i3 p3 => ⟨c, rfl, q c H3 ((e1.trans e2).trans e3) i3 p3⟩)

/-- ints: by the rule's function -/
theorem ec_opI {op : Operator} {g : Int → Int → V} {f : Int → Int → Dat} {Φ : W → Prop} (ho : OpR X (binaryOp op) (rI0 g)) (hg : ∀ i j H, Rep H (g i j) (f i j))
    (h : EC F X a ρ fun wa => ∃ i, wa = .d (.int i) ∧ EC F X b ρ fun wb => ∃ j, wb = .d (.int j) ∧ Φ (.d (f i j))) : EC F X (.BinOp a op b pos) ρ Φ :=
  ec_op ho (h.to fun wa ⟨i, ea, h2⟩ => h2.to fun wb ⟨j, eb, p⟩ H H1 va vb Q i1 r1 r2 q => by subst ea; subst eb; cases r1; cases r2; exact ⟨i, j, rfl, rfl, q _ H1 _ (.refl F H1) i1 (repD (hg i j H1)) p⟩)
theorem ec_add {Φ : W → Prop} (h : EC F X a ρ fun wa => ∃ i, wa = .d (.int i) ∧ EC F X b ρ fun wb => ∃ j, wb = .d (.int j) ∧ Φ (.d (.int (i + j)))) : EC F X (.BinOp a .Add b pos) ρ Φ := ec_opI (f := fun i j => .int (i + j)) op_add (fun i j H => .int _) h
theorem ec_sub {Φ : W → Prop} (h : EC F X a ρ fun wa => ∃ i, wa = .d (.int i) ∧ EC F X b ρ fun wb => ∃ j, wb = .d (.int j) ∧ Φ (.d (.int (i - j)))) : EC F X (.BinOp a .Sub b pos) ρ Φ := ec_opI (f := fun i j => .int (i - j)) op_sub (fun i j H => .int _) h
theorem ev_add {i j : Int} (ha : Ev F X a ρ (.d (.int i))) (hb : Ev F X b ρ (.d (.int j))) : Ev F X (.BinOp a .Add b pos) ρ (.d (.int (i + j))) := ec_add (ha.then ⟨i, rfl, hb.then ⟨j, rfl, rfl⟩⟩)
theorem ev_sub {i j : Int} (ha : Ev F X a ρ (.d (.int i))) (hb : Ev F X b ρ (.d (.int j))) : Ev F X (.BinOp a .Sub b pos) ρ (.d (.int (i - j))) := ec_sub (ha.then ⟨i, rfl, hb.then ⟨j, rfl, rfl⟩⟩)
end
end Md
end MdBPart
section MdCPart
set_option Elab.async false
set_option linter.all false
set_option maxRecDepth 100000
set_option maxHeartbeats 2000000
/-! More rules: comparisons, tests, subscripts, calls. -/
namespace Md
open PySem L2

def cW (X : Cx) (e : Expr) : TT := fun σ H Q => ∀ (wh : Sem Value) pins s, Inv X pins σ H s → wpAny (model X.prog X.w) X.A (isTrue e X.env wh) (TP X pins σ Q) X.xe s
theorem cW.pw (X : Cx) (e : Expr) : PW X e (cW X e) := ⟨fun wh pins s σ H Q I h => h wh pins s I⟩
theorem PW.c {X : Cx} {e : Expr} {t : TT} (h : PW X e t) {σ : L2.St} {H : Hp} {Q : Bool → Hp → Prop} (q : t σ H Q) : cW X e σ H Q := fun wh pins s I => h.run wh pins s σ H Q I q
def EW (F : Fr) (X : Cx) (e : Expr) (ρ : Env1) (Φ : Bool → Prop) : Prop := ∀ H0 H σ, Kn F H0 H σ ρ → ∀ Q : Bool → Hp → Prop, (∀ b H2, Ext F H H2 → F.I H2 → Φ b → Q b H2) → cW X e σ H Q

def isNon : W → Bool
  | .d .non => true
  | _ => false
def seqW : W → Option (List Dat)
  | .d (.tup ds) => some ds
  | .lst _ ds => some ds
  | _ => none
section
variable {F : Fr} {X : Cx} {ρ : Env1} {H0 H H1 H2 : Hp} {σ : L2.St} {a b c : Expr} {pos : Pos} {v : V} {w : W}
theorem EW.run {e : Expr} {Φ : Bool → Prop} (h : EW F X e ρ Φ) (k : Kn F H0 H σ ρ) {Q : Bool → Hp → Prop} (q : ∀ b H2, Ext F H H2 → Kn F H0 H2 σ ρ → Φ b → Q b H2) : cW X e σ H Q :=
  h H0 H σ k Q fun v H2 a b d => q v H2 a (k.step a b) d
theorem EW.et {e : Expr} {Φ : Bool → Prop} (h : EW F X e ρ Φ) : ET F X e ρ Φ := fun H0 H σ k Q q => PT.c (PW.pt (cW.pw X e)) (h H0 H σ k Q q)
theorem RepW.isNon (r : RepW F H0 H v w) (hd : w ≠ .deck) : decide (v = .non) = isNon w := by
  cases w with
  | d x => cases r <;> simp [Md.isNon]
  | lst own ds => obtain ⟨a, vs, h1, h2, h3, h4, h5⟩ := r; subst h1; simp [Md.isNon]
  | dic own kd => obtain ⟨a, vs, h1, h2, h3, h4, h5⟩ := r; subst h1; simp [Md.isNon]
  | deck => exact absurd rfl hd
/-! ### comparisons of ints -/
theorem ec_cmpI {op : CmpOp} {p : Int → Int → Bool} {Φ : W → Prop} (ho : OpR X (compareOp op) (rI0 fun i j => .bl (p i j))) (hm : behindInMarks op b = false)
    (h : EC F X a ρ fun wa => ∃ i, wa = .d (.int i) ∧ EC F X b ρ fun wb => ∃ j, wb = .d (.int j) ∧ Φ (.d (.bl (p i j)))) : EC F X (.Compare a [op] [b] pos) ρ Φ :=
  ec_cmp ho hm (h.to fun wa ⟨i, ea, h2⟩ => h2.to fun wb ⟨j, eb, p⟩ H H1 va vb Q i1 r1 r2 q => by subst ea; subst eb; cases r1; cases r2; exact ⟨i, j, rfl, rfl, q _ H1 _ (.refl F H1) i1 (repD (.bl _)) p⟩)
theorem et_cmpI {op : CmpOp} {p : Int → Int → Bool} {Φ : Bool → Prop} (ho : OpR X (compareOp op) (rI0 fun i j => .bl (p i j))) (hm : behindInMarks op b = false)
    (h : EC F X a ρ fun wa => ∃ i, wa = .d (.int i) ∧ EC F X b ρ fun wb => ∃ j, wb = .d (.int j) ∧ Φ (p i j)) : ET F X (.Compare a [op] [b] pos) ρ Φ :=
  et_cmp ho hm (h.to fun wa ⟨i, ea, h2⟩ => h2.to fun wb ⟨j, eb, p⟩ H H1 va vb Q i1 r1 r2 q => by subst ea; subst eb; cases r1; cases r2; exact ⟨i, j, rfl, rfl, q _ H1 (.refl F H1) i1 p⟩)
theorem op_eqI : OpR X (compareOp .Eq) (rI0 fun i j => .bl (decide (i = j))) := fun pins s σ H x y v u Q I rx ry ⟨i, j, e1, e2, q⟩ => op_eq pins s σ H x y v u Q I rx ry (by
  subst e1; subst e2; exact ⟨rfl, by rw [show decide (V.int i = V.int j) = decide (i = j) from by simp]; exact q⟩)
theorem op_neI : OpR X (compareOp .NotEq) (rI0 fun i j => .bl (!decide (i = j))) := fun pins s σ H x y v u Q I rx ry ⟨i, j, e1, e2, q⟩ => op_ne pins s σ H x y v u Q I rx ry (by
  subst e1; subst e2; exact ⟨rfl, by rw [show decide (V.int i = V.int j) = decide (i = j) from by simp]; exact q⟩)
variable {i j : Int}
theorem ev_lt (ha : Ev F X a ρ (.d (.int i))) (hb : Ev F X b ρ (.d (.int j))) : Ev F X (.Compare a [.Lt] [b] pos) ρ (.d (.bl (decide (i < j)))) := ec_cmpI op_lt (nomark b) (ha.then ⟨i, rfl, hb.then ⟨j, rfl, rfl⟩⟩)
theorem ev_le (ha : Ev F X a ρ (.d (.int i))) (hb : Ev F X b ρ (.d (.int j))) : Ev F X (.Compare a [.LtE] [b] pos) ρ (.d (.bl (decide (i ≤ j)))) := ec_cmpI op_le (nomark b) (ha.then ⟨i, rfl, hb.then ⟨j, rfl, rfl⟩⟩)
theorem ev_gt (ha : Ev F X a ρ (.d (.int i))) (hb : Ev F X b ρ (.d (.int j))) : Ev F X (.Compare a [.Gt] [b] pos) ρ (.d (.bl (decide (j < i)))) := ec_cmpI op_gt (nomark b) (ha.then ⟨i, rfl, hb.then ⟨j, rfl, rfl⟩⟩)
theorem ev_ge (ha : Ev F X a ρ (.d (.int i))) (hb : Ev F X b ρ (.d (.int j))) : Ev F X (.Compare a [.GtE] [b] pos) ρ (.d (.bl (decide (j ≤ i)))) := ec_cmpI op_ge (nomark b) (ha.then ⟨i, rfl, hb.then ⟨j, rfl, rfl⟩⟩)
theorem ev_eqI (ha : Ev F X a ρ (.d (.int i))) (hb : Ev F X b ρ (.d (.int j))) : Ev F X (.Compare a [.Eq] [b] pos) ρ (.d (.bl (decide (i = j)))) := ec_cmpI op_eqI (nomark b) (ha.then ⟨i, rfl, hb.then ⟨j, rfl, rfl⟩⟩)
theorem ev_neI (ha : Ev F X a ρ (.d (.int i))) (hb : Ev F X b ρ (.d (.int j))) : Ev F X (.Compare a [.NotEq] [b] pos) ρ (.d (.bl (!decide (i = j)))) := ec_cmpI op_neI (nomark b) (ha.then ⟨i, rfl, hb.then ⟨j, rfl, rfl⟩⟩)
theorem et_lt (ha : Ev F X a ρ (.d (.int i))) (hb : Ev F X b ρ (.d (.int j))) : EvT F X (.Compare a [.Lt] [b] pos) ρ (decide (i < j)) := et_cmpI op_lt (nomark b) (ha.then ⟨i, rfl, hb.then ⟨j, rfl, rfl⟩⟩)
theorem et_le (ha : Ev F X a ρ (.d (.int i))) (hb : Ev F X b ρ (.d (.int j))) : EvT F X (.Compare a [.LtE] [b] pos) ρ (decide (i ≤ j)) := et_cmpI op_le (nomark b) (ha.then ⟨i, rfl, hb.then ⟨j, rfl, rfl⟩⟩)
theorem et_gt (ha : Ev F X a ρ (.d (.int i))) (hb : Ev F X b ρ (.d (.int j))) : EvT F X (.Compare a [.Gt] [b] pos) ρ (decide (j < i)) := et_cmpI op_gt (nomark b) (ha.then ⟨i, rfl, hb.then ⟨j, rfl, rfl⟩⟩)
theorem et_ge (ha : Ev F X a ρ (.d (.int i))) (hb : Ev F X b ρ (.d (.int j))) : EvT F X (.Compare a [.GtE] [b] pos) ρ (decide (j ≤ i)) := et_cmpI op_ge (nomark b) (ha.then ⟨i, rfl, hb.then ⟨j, rfl, rfl⟩⟩)
theorem et_eqI (ha : Ev F X a ρ (.d (.int i))) (hb : Ev F X b ρ (.d (.int j))) : EvT F X (.Compare a [.Eq] [b] pos) ρ (decide (i = j)) := et_cmpI op_eqI (nomark b) (ha.then ⟨i, rfl, hb.then ⟨j, rfl, rfl⟩⟩)
theorem et_neI (ha : Ev F X a ρ (.d (.int i))) (hb : Ev F X b ρ (.d (.int j))) : EvT F X (.Compare a [.NotEq] [b] pos) ρ (!decide (i = j)) := et_cmpI op_neI (nomark b) (ha.then ⟨i, rfl, hb.then ⟨j, rfl, rfl⟩⟩)
/-! ### is None, strings, bools -/
theorem ev_isN (ha : Ev F X a ρ w) (hd : w ≠ .deck := by exact fun z => nomatch z) {jj pp} : Ev F X (.Compare a [.Is] [.Constant .none jj pp] pos) ρ (.d (.bl (isNon w))) :=
  ec_cmp op_isN (nomark _) (ha.then (ev_non.then fun H H1 va vb Q i1 r1 r2 q => by cases r2; exact ⟨rfl, by rw [r1.isNon hd]; exact q _ H1 _ (.refl F H1) i1 (repD (.bl _)) rfl⟩))
theorem ev_notN (ha : Ev F X a ρ w) (hd : w ≠ .deck := by exact fun z => nomatch z) {jj pp} : Ev F X (.Compare a [.IsNot] [.Constant .none jj pp] pos) ρ (.d (.bl (!isNon w))) :=
  ec_cmp op_notN (nomark _) (ha.then (ev_non.then fun H H1 va vb Q i1 r1 r2 q => by cases r2; exact ⟨rfl, by rw [r1.isNon hd]; exact q _ H1 _ (.refl F H1) i1 (repD (.bl _)) rfl⟩))
theorem et_isN (ha : Ev F X a ρ w) (hd : w ≠ .deck := by exact fun z => nomatch z) {jj pp} : EvT F X (.Compare a [.Is] [.Constant .none jj pp] pos) ρ (isNon w) :=
  et_cmp op_isN (nomark _) (ha.then (ev_non.then fun H H1 va vb Q i1 r1 r2 q => by cases r2; exact ⟨rfl, by rw [r1.isNon hd]; exact q _ H1 (.refl F H1) i1 rfl⟩))
theorem et_notN (ha : Ev F X a ρ w) (hd : w ≠ .deck := by exact fun z => nomatch z) {jj pp} : EvT F X (.Compare a [.IsNot] [.Constant .none jj pp] pos) ρ (!isNon w) :=
  et_cmp op_notN (nomark _) (ha.then (ev_non.then fun H H1 va vb Q i1 r1 r2 q => by cases r2; exact ⟨rfl, by rw [r1.isNon hd]; exact q _ H1 (.refl F H1) i1 rfl⟩))
theorem ev_eqS {x y : Str} (ha : Ev F X a ρ (.d (.str x))) (hb : Ev F X b ρ (.d (.str y))) : Ev F X (.Compare a [.Eq] [b] pos) ρ (.d (.bl (decide (x = y)))) :=
  ec_cmp op_eq (nomark _) (ha.then (hb.then fun H H1 va vb Q i1 r1 r2 q => by cases r1; cases r2; exact ⟨rfl, by rw [show decide (V.str x = V.str y) = decide (x = y) from by simp]; exact q _ H1 _ (.refl F H1) i1 (repD (.bl _)) rfl⟩))
theorem et_eqS {x y : Str} (ha : Ev F X a ρ (.d (.str x))) (hb : Ev F X b ρ (.d (.str y))) : EvT F X (.Compare a [.Eq] [b] pos) ρ (decide (x = y)) :=
  et_cmp op_eq (nomark _) (ha.then (hb.then fun H H1 va vb Q i1 r1 r2 q => by cases r1; cases r2; exact ⟨rfl, by rw [show decide (V.str x = V.str y) = decide (x = y) from by simp]; exact q _ H1 (.refl F H1) i1 rfl⟩))
theorem et_neS {x y : Str} (ha : Ev F X a ρ (.d (.str x))) (hb : Ev F X b ρ (.d (.str y))) : EvT F X (.Compare a [.NotEq] [b] pos) ρ (!decide (x = y)) :=
  et_cmp op_ne (nomark _) (ha.then (hb.then fun H H1 va vb Q i1 r1 r2 q => by cases r1; cases r2; exact ⟨rfl, by rw [show decide (V.str x = V.str y) = decide (x = y) from by simp]; exact q _ H1 (.refl F H1) i1 rfl⟩))
theorem et_neB {x y : Bool} (ha : Ev F X a ρ (.d (.bl x))) (hb : Ev F X b ρ (.d (.bl y))) : EvT F X (.Compare a [.NotEq] [b] pos) ρ (!decide (x = y)) :=
  et_cmp op_ne (nomark _) (ha.then (hb.then fun H H1 va vb Q i1 r1 r2 q => by cases r1; cases r2; exact ⟨rfl, by rw [show decide (V.bl x = V.bl y) = decide (x = y) from by simp]; exact q _ H1 (.refl F H1) i1 rfl⟩))
theorem ev_isB {x y : Bool} (ha : Ev F X a ρ (.d (.bl x))) (hb : Ev F X b ρ (.d (.bl y))) : Ev F X (.Compare a [.Is] [b] pos) ρ (.d (.bl (decide (x = y)))) :=
  ec_cmp op_isBl (nomark _) (ha.then (hb.then fun H H1 va vb Q i1 r1 r2 q => by cases r1; cases r2; exact ⟨x, y, rfl, rfl, q _ H1 _ (.refl F H1) i1 (repD (.bl _)) rfl⟩))
theorem et_isntB {x y : Bool} (ha : Ev F X a ρ (.d (.bl x))) (hb : Ev F X b ρ (.d (.bl y))) : EvT F X (.Compare a [.IsNot] [b] pos) ρ (!decide (x = y)) :=
  et_cmp op_notBl (nomark _) (ha.then (hb.then fun H H1 va vb Q i1 r1 r2 q => by cases r1; cases r2; exact ⟨x, y, rfl, rfl, q _ H1 (.refl F H1) i1 rfl⟩))
/-! ### bools together -/
theorem ec_and {rest : List Expr} {Φ : W → Prop} (h : EC F X a ρ fun wa => ∃ p, wa = .d (.bl p) ∧ (p = true → EC F X (.BoolOp .And (b :: rest) pos) ρ Φ) ∧ (p = false → Φ (.d (.bl false)))) : EC F X (.BoolOp .And (a :: b :: rest) pos) ρ Φ := fun H0 H σ k Q q =>
  PE.c (pe_and (cE.pe X a) (cE.pe X _)) (h.run k fun va H1 wa e1 k1 r1 ⟨p, ew, h1, h2⟩ => by
    subst ew
    cases r1
    refine ⟨p, rfl, ?_⟩
    cases p with
    | true => exact (h1 rfl).run k1 fun vb H2 wb e2 k2 r2 p2 => q vb H2 wb (e1.trans e2) k2.inv (r2.back e1) p2
    | false => exact q _ H1 _ e1 k1.inv (repD (.bl false)) (h2 rfl))
theorem ec_or {rest : List Expr} {Φ : W → Prop} (h : EC F X a ρ fun wa => ∃ p, wa = .d (.bl p) ∧ (p = false → EC F X (.BoolOp .Or (b :: rest) pos) ρ Φ) ∧ (p = true → Φ (.d (.bl true)))) : EC F X (.BoolOp .Or (a :: b :: rest) pos) ρ Φ := fun H0 H σ k Q q =>
  PE.c (pe_or (cE.pe X a) (cE.pe X _)) (h.run k fun va H1 wa e1 k1 r1 ⟨p, ew, h1, h2⟩ => by
    subst ew
    cases r1
    refine ⟨p, rfl, ?_⟩
    cases p with
    | false => exact (h1 rfl).run k1 fun vb H2 wb e2 k2 r2 p2 => q vb H2 wb (e1.trans e2) k2.inv (r2.back e1) p2
    | true => exact q _ H1 _ e1 k1.inv (repD (.bl true)) (h2 rfl))
theorem ec_bool1 {op : BoolOp} {Φ : W → Prop} (h : EC F X a ρ Φ) : EC F X (.BoolOp op [a] pos) ρ Φ := fun H0 H σ k Q q => PE.c (pe_one (cE.pe X a)) (h H0 H σ k Q q)
theorem ec_not {Φ : W → Prop} (h : EC F X a ρ fun wa => ∃ p, wa = .d (.bl p) ∧ Φ (.d (.bl (!p)))) : EC F X (.UnaryOp .Not a pos) ρ Φ := fun H0 H σ k Q q =>
  PE.c (pe_not (cE.pe X a)) (h.run k fun va H1 wa e1 k1 r1 ⟨p, ew, h1⟩ => by subst ew; cases r1; exact ⟨p, rfl, q _ H1 _ e1 k1.inv (repD (.bl _)) h1⟩)
variable {p q : Bool}
theorem ev_and2 (ha : Ev F X a ρ (.d (.bl p))) (hb : p = true → Ev F X b ρ (.d (.bl q))) : Ev F X (.BoolOp .And [a, b] pos) ρ (.d (.bl (p && q))) :=
  ec_and (ha.then ⟨p, rfl, fun e => (ec_bool1 (hb e)).to fun w ew => by subst e; exact ew, fun e => by subst e; rfl⟩)
theorem ev_and3 {r : Bool} (ha : Ev F X a ρ (.d (.bl p))) (hb : p = true → Ev F X b ρ (.d (.bl q))) (hc : p = true → q = true → Ev F X c ρ (.d (.bl r))) : Ev F X (.BoolOp .And [a, b, c] pos) ρ (.d (.bl (p && (q && r)))) :=
  ec_and (ha.then ⟨p, rfl, fun e => (ev_and2 (hb e) (hc e)).to fun w ew => by subst e; exact ew, fun e => by subst e; rfl⟩)
theorem ev_not (ha : Ev F X a ρ (.d (.bl p))) : Ev F X (.UnaryOp .Not a pos) ρ (.d (.bl (!p))) := ec_not (ha.then ⟨p, rfl, rfl⟩)
/-! .. as tests -/
theorem ew_and {rest : List Expr} {Φ : Bool → Prop} (h : ET F X a ρ fun p => (p = true → EW F X (.BoolOp .And (b :: rest) pos) ρ Φ) ∧ (p = false → Φ false)) : EW F X (.BoolOp .And (a :: b :: rest) pos) ρ Φ := fun H0 H σ k Q q =>
  PW.c (pw_and (cT.pt X a) (cW.pw X _)) (h.run k fun p H1 e1 k1 ⟨h1, h2⟩ => by
    cases p with
    | true => exact (h1 rfl).run k1 fun vb H2 e2 k2 p2 => q vb H2 (e1.trans e2) k2.inv p2
    | false => exact q _ H1 e1 k1.inv (h2 rfl))
theorem ew_or {rest : List Expr} {Φ : Bool → Prop} (h : ET F X a ρ fun p => (p = false → EW F X (.BoolOp .Or (b :: rest) pos) ρ Φ) ∧ (p = true → Φ true)) : EW F X (.BoolOp .Or (a :: b :: rest) pos) ρ Φ := fun H0 H σ k Q q =>
  PW.c (pw_or (cT.pt X a) (cW.pw X _)) (h.run k fun p H1 e1 k1 ⟨h1, h2⟩ => by
    cases p with
    | false => exact (h1 rfl).run k1 fun vb H2 e2 k2 p2 => q vb H2 (e1.trans e2) k2.inv p2
    | true => exact q _ H1 e1 k1.inv (h2 rfl))
theorem ew_and1 {Φ : Bool → Prop} (h : ET F X a ρ Φ) : EW F X (.BoolOp .And [a] pos) ρ Φ := fun H0 H σ k Q q => PW.c (pw_and1 (cT.pt X a)) (h H0 H σ k Q q)
theorem ew_or1 {Φ : Bool → Prop} (h : ET F X a ρ Φ) : EW F X (.BoolOp .Or [a] pos) ρ Φ := fun H0 H σ k Q q => PW.c (pw_or1 (cT.pt X a)) (h H0 H σ k Q q)
theorem et_not {Φ : Bool → Prop} (h : ET F X a ρ fun p => Φ (!p)) : ET F X (.UnaryOp .Not a pos) ρ Φ := fun H0 H σ k Q q => PT.c (pt_not (cT.pt X a)) (h.run k fun p H1 e1 k1 h1 => q _ H1 e1 k1.inv h1)
theorem et_val {Φ : Bool → Prop} (h : EC F X a ρ fun w => ∃ p, w = .d (.bl p) ∧ Φ p) (he : ∀ whole, isTrue a X.env whole = (do let v ← whole; standAt a.pos; holding [v] (truthy v)) := by intro _; rfl) : ET F X a ρ Φ := fun H0 H σ k Q q =>
  PT.c (pt_val (cE.pe X a) he) (h.run k fun v H1 w e1 k1 r1 ⟨p, ew, h1⟩ => by subst ew; cases r1; exact ⟨p, rfl, q p H1 e1 k1.inv h1⟩)
theorem evT_val (h : Ev F X a ρ (.d (.bl p))) (he : ∀ whole, isTrue a X.env whole = (do let v ← whole; standAt a.pos; holding [v] (truthy v)) := by intro _; rfl) : EvT F X a ρ p := et_val (h.then ⟨p, rfl, rfl⟩) he
theorem evW_and2 (ha : EvT F X a ρ p) (hb : p = true → EvT F X b ρ q) : EW F X (.BoolOp .And [a, b] pos) ρ fun u => u = (p && q) :=
  ew_and (ha.then ⟨fun e => ew_and1 ((hb e).to fun w ew => by subst e; exact ew), fun e => by subst e; rfl⟩)
theorem evT_and2 (ha : EvT F X a ρ p) (hb : p = true → EvT F X b ρ q) : EvT F X (.BoolOp .And [a, b] pos) ρ (p && q) := (evW_and2 ha hb).et
theorem evW_and3 {r : Bool} (ha : EvT F X a ρ p) (hb : p = true → EvT F X b ρ q) (hc : p = true → q = true → EvT F X c ρ r) : EW F X (.BoolOp .And [a, b, c] pos) ρ fun u => u = (p && (q && r)) :=
  ew_and (ha.then ⟨fun e => by have := evW_and2 (pos := pos) (hb e) (hc e); subst e; exact this, fun e => by subst e; rfl⟩)
theorem evT_and3 {r : Bool} (ha : EvT F X a ρ p) (hb : p = true → EvT F X b ρ q) (hc : p = true → q = true → EvT F X c ρ r) : EvT F X (.BoolOp .And [a, b, c] pos) ρ (p && (q && r)) := (evW_and3 ha hb hc).et
theorem evW_or2 (ha : EvT F X a ρ p) (hb : p = false → EvT F X b ρ q) : EW F X (.BoolOp .Or [a, b] pos) ρ fun u => u = (p || q) :=
  ew_or (ha.then ⟨fun e => ew_or1 ((hb e).to fun w ew => by subst e; exact ew), fun e => by subst e; rfl⟩)
theorem evT_or2 (ha : EvT F X a ρ p) (hb : p = false → EvT F X b ρ q) : EvT F X (.BoolOp .Or [a, b] pos) ρ (p || q) := (evW_or2 ha hb).et
theorem evW_or3 {r : Bool} (ha : EvT F X a ρ p) (hb : p = false → EvT F X b ρ q) (hc : p = false → q = false → EvT F X c ρ r) : EW F X (.BoolOp .Or [a, b, c] pos) ρ fun u => u = (p || (q || r)) :=
  ew_or (ha.then ⟨fun e => by have := evW_or2 (pos := pos) (hb e) (hc e); subst e; exact this, fun e => by subst e; rfl⟩)
theorem evT_or3 {r : Bool} (ha : EvT F X a ρ p) (hb : p = false → EvT F X b ρ q) (hc : p = false → q = false → EvT F X c ρ r) : EvT F X (.BoolOp .Or [a, b, c] pos) ρ (p || (q || r)) := (evW_or3 ha hb hc).et
theorem evT_or4 {d : Expr} {r s : Bool} (ha : EvT F X a ρ p) (hb : p = false → EvT F X b ρ q) (hc : p = false → q = false → EvT F X c ρ r) (hd : p = false → q = false → r = false → EvT F X d ρ s) : EvT F X (.BoolOp .Or [a, b, c, d] pos) ρ (p || (q || (r || s))) :=
  EW.et (ew_or (ha.then ⟨fun e => by have := evW_or3 (pos := pos) (hb e) (hc e) (hd e); subst e; exact this, fun e => by subst e; rfl⟩))
theorem evT_not (ha : EvT F X a ρ p) : EvT F X (.UnaryOp .Not a pos) ρ (!p) := et_not (ha.then rfl)
/-- a if t else b -/
theorem ec_if {t : Expr} {Φ : W → Prop} (h : ET F X t ρ fun p => (p = true → EC F X a ρ Φ) ∧ (p = false → EC F X b ρ Φ)) : EC F X (.IfExp t a b pos) ρ Φ := fun H0 H σ k Q q =>
  PE.c (pe_ifExp (cT.pt X t) (cE.pe X a) (cE.pe X b)) (h.run k fun p H1 e1 k1 ⟨h1, h2⟩ => by
    cases p with
    | true => exact (h1 rfl).run k1 fun vb H2 wb e2 k2 r2 p2 => q vb H2 wb (e1.trans e2) k2.inv (r2.back e1) p2
    | false => exact (h2 rfl).run k1 fun vb H2 wb e2 k2 r2 p2 => q vb H2 wb (e1.trans e2) k2.inv (r2.back e1) p2)
/-- two comparisons of ints -/
theorem ec_chainI {op op' : CmpOp} {f g : Int → Int → Bool} {Φ : W → Prop} (ho : OpR X (compareOp op) (rI0 fun i j => .bl (f i j))) (ho' : OpR X (compareOp op') (rI0 fun i j => .bl (g i j)))
    (h : EC F X a ρ fun wa => ∃ i, wa = .d (.int i) ∧ EC F X b ρ fun wb => ∃ j, wb = .d (.int j) ∧ (f i j = true → EC F X c ρ fun wc => ∃ l, wc = .d (.int l) ∧ Φ (.d (.bl (g j l)))) ∧ (f i j = false → Φ (.d (.bl false))))
    (hm : lastMarks [op, op'] [b, c] = false := by with_unfolding_all rfl) : EC F X (.Compare a [op, op'] [b, c] pos) ρ Φ := fun H0 H σ k Q q =>
  PE.c (pe_chain ho ho' (cE.pe X a) (cE.pe X b) (cE.pe X c) hm) (h.run k fun va H1 wa e1 k1 r1 ⟨i, ei, p1⟩ => p1.run k1 fun vb H2 wb e2 k2 r2 ⟨j, ej, h1, h2⟩ => by
    subst ei; subst ej; cases r1; cases r2
    refine ⟨i, j, rfl, rfl, _, rfl, ?_⟩
    cases e : f i j with
    | true => exact (h1 e).run k2 fun vc H3 wc e3 k3 r3 ⟨l, el, p3⟩ => by subst el; cases r3; exact ⟨j, l, rfl, rfl, q _ H3 _ ((e1.trans e2).trans e3) k3.inv (repD (.bl _)) p3⟩
    | false => exact q _ H2 _ (e1.trans e2) k2.inv (repD (.bl false)) (h2 e))
theorem ev_leLe {l : Int} (ha : Ev F X a ρ (.d (.int i))) (hb : Ev F X b ρ (.d (.int j))) (hc : Ev F X c ρ (.d (.int l))) (hm : lastMarks [.LtE, .LtE] [b, c] = false := by with_unfolding_all rfl) : Ev F X (.Compare a [.LtE, .LtE] [b, c] pos) ρ (.d (.bl (decide (i ≤ j) && decide (j ≤ l)))) :=
  ec_chainI op_le op_le (ha.then ⟨i, rfl, hb.then ⟨j, rfl, fun e => hc.then ⟨l, rfl, by rw [e]; rfl⟩, fun e => by rw [e]; rfl⟩⟩) hm
theorem ev_leLt {l : Int} (ha : Ev F X a ρ (.d (.int i))) (hb : Ev F X b ρ (.d (.int j))) (hc : Ev F X c ρ (.d (.int l))) (hm : lastMarks [.LtE, .Lt] [b, c] = false := by with_unfolding_all rfl) : Ev F X (.Compare a [.LtE, .Lt] [b, c] pos) ρ (.d (.bl (decide (i ≤ j) && decide (j < l)))) :=
  ec_chainI op_le op_lt (ha.then ⟨i, rfl, hb.then ⟨j, rfl, fun e => hc.then ⟨l, rfl, by rw [e]; rfl⟩, fun e => by rw [e]; rfl⟩⟩) hm
theorem et_chainI {op op' : CmpOp} {f g : Int → Int → Bool} {Φ : Bool → Prop} (ho : OpR X (compareOp op) (rI0 fun i j => .bl (f i j))) (ho' : OpR X (compareOp op') (rI0 fun i j => .bl (g i j)))
    (h : EC F X a ρ fun wa => ∃ i, wa = .d (.int i) ∧ EC F X b ρ fun wb => ∃ j, wb = .d (.int j) ∧ (f i j = true → EC F X c ρ fun wc => ∃ l, wc = .d (.int l) ∧ Φ (g j l)) ∧ (f i j = false → Φ false))
    (hm : lastMarks [op, op'] [b, c] = false := by with_unfolding_all rfl) : ET F X (.Compare a [op, op'] [b, c] pos) ρ Φ := fun H0 H σ k Q q =>
  PT.c (pt_chain ho ho' (cE.pe X a) (cE.pe X b) (cE.pe X c) hm) (h.run k fun va H1 wa e1 k1 r1 ⟨i, ei, p1⟩ => p1.run k1 fun vb H2 wb e2 k2 r2 ⟨j, ej, h1, h2⟩ => by
    subst ei; subst ej; cases r1; cases r2
    refine ⟨i, j, rfl, rfl, _, rfl, ?_⟩
    cases e : f i j with
    | true => exact (h1 e).run k2 fun vc H3 wc e3 k3 r3 ⟨l, el, p3⟩ => by subst el; cases r3; exact ⟨j, l, rfl, rfl, _, rfl, q _ H3 ((e1.trans e2).trans e3) k3.inv p3⟩
    | false => exact ⟨_, rfl, q _ H2 (e1.trans e2) k2.inv (h2 e)⟩)
theorem et_leLt {l : Int} (ha : Ev F X a ρ (.d (.int i))) (hb : Ev F X b ρ (.d (.int j))) (hc : Ev F X c ρ (.d (.int l))) (hm : lastMarks [.LtE, .Lt] [b, c] = false := by with_unfolding_all rfl) : EvT F X (.Compare a [.LtE, .Lt] [b, c] pos) ρ (decide (i ≤ j) && decide (j < l)) :=
  et_chainI op_le op_lt (ha.then ⟨i, rfl, hb.then ⟨j, rfl, fun e => hc.then ⟨l, rfl, by rw [e]; rfl⟩, fun e => by rw [e]; rfl⟩⟩) hm
theorem et_leLe {l : Int} (ha : Ev F X a ρ (.d (.int i))) (hb : Ev F X b ρ (.d (.int j))) (hc : Ev F X c ρ (.d (.int l))) (hm : lastMarks [.LtE, .LtE] [b, c] = false := by with_unfolding_all rfl) : EvT F X (.Compare a [.LtE, .LtE] [b, c] pos) ρ (decide (i ≤ j) && decide (j ≤ l)) :=
  et_chainI op_le op_le (ha.then ⟨i, rfl, hb.then ⟨j, rfl, fun e => hc.then ⟨l, rfl, by rw [e]; rfl⟩, fun e => by rw [e]; rfl⟩⟩) hm
end
end Md
end MdCPart
section MdDPart
set_option Elab.async false
set_option linter.all false
set_option maxRecDepth 100000
set_option maxHeartbeats 2000000
/-! More rules: isinstance, in, subscripts, displays, calls. -/
namespace Md
open PySem L2

def datTy : Dat → String
  | .non => "NoneType"
  | .bl _ => "bool"
  | .int _ => "int"
  | .str _ => "str"
  | .tup _ => "tuple"
theorem atI_rel {H : Hp} {vs : List V} {ds : List Dat} {i : Int} {d : Dat} (r : Reps H vs ds) (h : atI ds i = some d) : ∃ v, atI vs i = some v ∧ Rep H v d := by
  unfold atI at h ⊢
  rw [r.length]
  cases e : ixN ds.length i with
  | none => rw [e] at h; cases h
  | some j => rw [e] at h; exact r.get h
theorem inV_int (i : Int) (ns : List Int) : inV (.int i) (ns.map V.int) = decide (i ∈ ns) := by
  unfold inV
  induction ns with
  | nil => simp
  | cons n t ih =>
    rw [List.map_cons, List.any_cons, ih]
    show ((n == i) || decide (i ∈ t)) = decide (i ∈ n :: t)
    by_cases h : n = i
    · subst h; simp
    · have h2 : ¬ i = n := fun z => h z.symm
      simp [h, h2]
theorem flat_ints (ns : List Int) : (ns.map V.int).all flatV = true := by
  induction ns with
  | nil => rfl
  | cons n t ih => rw [List.map_cons, List.all_cons, ih]; rfl
theorem reps_strs {H : Hp} : ∀ {ns : List Str} {vs : List V}, Reps H vs (ns.map Dat.str) → vs = ns.map V.str
  | [], _, .nil => rfl
  | n :: ns, _, .cons h t => by cases h; rw [reps_strs t]; rfl
theorem inV_str (i : Str) (ns : List Str) : inV (.str i) (ns.map V.str) = decide (i ∈ ns) := by
  unfold inV
  induction ns with
  | nil => simp
  | cons n t ih =>
    rw [List.map_cons, List.any_cons, ih]
    show ((n == i) || decide (i ∈ t)) = decide (i ∈ n :: t)
    by_cases h : n = i
    · subst h; simp
    · have h2 : ¬ i = n := fun z => h z.symm
      simp [h, h2]
theorem flat_strs (ns : List Str) : (ns.map V.str).all flatV = true := by
  induction ns with
  | nil => rfl
  | cons n t ih => rw [List.map_cons, List.all_cons, ih]; rfl
section
variable {F : Fr} {X : Cx} {ρ : Env1} {H0 H H1 H2 : Hp} {σ : L2.St} {a b c e : Expr} {es : List Expr} {pos p : Pos} {v : V} {w : W}
theorem RepW.seq {K : PySem.W.Frag} {ds : List Dat} (r : RepW F H0 H v w) (h : seqW w = some ds) : ∃ p vs, v = .ref p ∧ (SqL K H p vs ∨ SqT K H p vs) ∧ Reps H vs ds := by
  cases w with
  | d x =>
    cases x with
    | tup es =>
      cases h
      have r' : Rep H v (.tup ds) := r
      cases r' with
      | tup h1 h2 => exact ⟨_, _, rfl, .inr (SqT.of h1), h2⟩
    | non => cases h
    | bl b => cases h
    | int i => cases h
    | str x => cases h
  | lst own es => cases h; obtain ⟨a, vs, h1, h2, h3, h4, h5⟩ := r; exact ⟨a, vs, h1, .inl (SqL.of h2), h3⟩
  | dic own kd => cases h
  | deck => cases h
/-! ### isinstance -/
theorem ev_isinst {T : Str} {U : String} {k : Bool} {x : Dat} {q : Pos} (hg : Gl X "isinstance") (hm : X.mg "isinstance" = none) (hg2 : Gl X T) (hm2 : X.mg T = none) (ha : Ev F X a ρ (.d x)) (hv : bootBuiltins T = some (.type U)) (hk : kitB (datTy x) U = some k)
    (hs1 : starEach [a, .Name T q] X.env = (false, eval a X.env) :: starEach [.Name T q] X.env := by rfl) (hs2 : starEach [.Name T q] X.env = (false, eval (.Name T q) X.env) :: starEach [] X.env := by rfl) (hpl : (backTo pos (starEach [.Name T q] X.env)).any (·.1) = false := by rfl) (hn : T ≠ "__name__" := by decide) (hdb : (T == ("__debug__" : Str)) = false := by decide) :
    Ev F X (.Call (.Name "isinstance" p) [a, .Name T q] [] pos) ρ (.d (.bl k)) := fun H0 H σ kn Q qq =>
  PE.c (pe_callB (r := rIsi X.K) call_isi hg hm (by decide +kernel) (pa_cons (cE.pe X a) (pa_cons (pe_bltn (v := .ty U) hg2 hm2 hv rfl hn hdb) pa_nil hs2) hs1) (he := hs1) (hpl := hpl)) (ha.run kn fun va H1 wa e1 k1 r1 ew => by
    subst ew
    have r1' : Rep H1 va x := r1
    have ty : TyX X.K H1 va (.type (datTy x)) := by
      cases r1' with
      | non => exact .base .non
      | bl b => exact .base (.bl b)
      | int i => exact .base (.int i)
      | str y => exact .base (.str y)
      | tup h1 h2 => exact .base (.tup h1)
    exact ⟨va, .ty U, _, _, k, rfl, .ty U, ty, kit_ty hk, qq _ H1 _ e1 k1.inv (repD (.bl k)) rfl⟩)
/-! ### in -/
theorem ec_inI {op : CmpOp} {neg : Bool} {Φ : W → Prop} (ho : OpR X (compareOp op) (rIn X.K neg)) (hm : behindInMarks op b = false)
    (h : EC F X a ρ fun wa => ∃ i, wa = .d (.int i) ∧ EC F X b ρ fun wb => ∃ ns : List Int, seqW wb = some (ns.map Dat.int) ∧ Φ (.d (.bl (if neg then !decide (i ∈ ns) else decide (i ∈ ns))))) : EC F X (.Compare a [op] [b] pos) ρ Φ :=
  ec_cmp ho hm (h.to fun wa ⟨i, ea, h2⟩ => h2.to fun wb ⟨ns, hs, p⟩ H H1 va vb Q i1 r1 r2 q => by
    subst ea; cases r1
    obtain ⟨pp, vs, e2, sq, rs⟩ := r2.seq (K := X.K) hs
    cases rs.ints
    refine ⟨pp, _, e2, sq, rfl, flat_ints ns, ?_⟩
    rw [inV_int]
    exact q _ H1 _ (.refl F H1) i1 (repD (.bl _)) p)
theorem et_inI {op : CmpOp} {neg : Bool} {Φ : Bool → Prop} (ho : OpR X (compareOp op) (rIn X.K neg)) (hm : behindInMarks op b = false)
    (h : EC F X a ρ fun wa => ∃ i, wa = .d (.int i) ∧ EC F X b ρ fun wb => ∃ ns : List Int, seqW wb = some (ns.map Dat.int) ∧ Φ (if neg then !decide (i ∈ ns) else decide (i ∈ ns))) : ET F X (.Compare a [op] [b] pos) ρ Φ :=
  et_cmp ho hm (h.to fun wa ⟨i, ea, h2⟩ => h2.to fun wb ⟨ns, hs, p⟩ H H1 va vb Q i1 r1 r2 q => by
    subst ea; cases r1
    obtain ⟨pp, vs, e2, sq, rs⟩ := r2.seq (K := X.K) hs
    cases rs.ints
    refine ⟨pp, _, e2, sq, rfl, flat_ints ns, ?_⟩
    rw [inV_int]
    exact q _ H1 (.refl F H1) i1 p)
theorem et_inS {op : CmpOp} {neg : Bool} {Φ : Bool → Prop} (ho : OpR X (compareOp op) (rIn X.K neg)) (hm : behindInMarks op b = false)
    (h : EC F X a ρ fun wa => ∃ i, wa = .d (.str i) ∧ EC F X b ρ fun wb => ∃ ns : List Str, seqW wb = some (ns.map Dat.str) ∧ Φ (if neg then !decide (i ∈ ns) else decide (i ∈ ns))) : ET F X (.Compare a [op] [b] pos) ρ Φ :=
  et_cmp ho hm (h.to fun wa ⟨i, ea, h2⟩ => h2.to fun wb ⟨ns, hs, p⟩ H H1 va vb Q i1 r1 r2 q => by
    subst ea; cases r1
    obtain ⟨pp, vs, e2, sq, rs⟩ := r2.seq (K := X.K) hs
    cases reps_strs rs
    refine ⟨pp, _, e2, sq, rfl, flat_strs ns, ?_⟩
    rw [inV_str]
    exact q _ H1 (.refl F H1) i1 p)
/-! ### subscripts -/
theorem ec_ix {Φ : W → Prop} (h : EC F X a ρ fun wa => ∃ ds : List Dat, seqW wa = some ds ∧ EC F X b ρ fun wb => ∃ i d, wb = .d (.int i) ∧ atI ds i = some d ∧ Φ (.d d)) (hs : PlainIx b := by exact fun _ _ => rfl) : EC F X (.Subscript a b pos) ρ Φ := fun H0 H σ k Q q =>
  PE.c (pe_ix (ix_list.or ix_tup) (cE.pe X a) (cE.pe X b) hs) (h.run k fun va H1 wa e1 k1 r1 ⟨ds, hd, p1⟩ => p1.run k1 fun vb H2 wb e2 k2 r2 ⟨i, d, ew, hi, p2⟩ => by
    subst ew; cases r2
    obtain ⟨pp, vs, ev, sq, rs⟩ := (r1.step e2).seq (K := X.K) hd
    obtain ⟨v, hv, rv⟩ := atI_rel rs hi
    have fin : Q v H2 := q v H2 _ (e1.trans e2) k2.inv (repD rv) p2
    rcases sq with sq | sq
    · exact .inl ⟨pp, vs, i, v, ev, rfl, sq, hv, fin⟩
    · exact .inr ⟨pp, vs, i, v, ev, rfl, sq, hv, fin⟩)
theorem ev_ix {ds : List Dat} {i : Int} {d : Dat} (ha : Ev F X a ρ w) (hb : Ev F X b ρ (.d (.int i))) (hw : seqW w = some ds) (hi : atI ds i = some d) (hs : PlainIx b := by exact fun _ _ => rfl) : Ev F X (.Subscript a b pos) ρ (.d d) :=
  ec_ix (ha.then ⟨ds, hw, hb.then ⟨i, d, rfl, hi, rfl⟩⟩) hs
/-! ### argument lists, displays -/
theorem ea_nil {Φ : List W → Prop} (h : Φ []) : EA F X [] ρ Φ := fun H0 H σ k Q q => PA.c pa_nil (q [] H [] (.refl F H) k.inv .nil h)
theorem ea_cons {Φ : List W → Prop} (h : EC F X e ρ fun w => EA F X es ρ fun ws => Φ (w :: ws)) (hs : starEach (e :: es) X.env = (false, eval e X.env) :: starEach es X.env := by rfl) : EA F X (e :: es) ρ Φ := fun H0 H σ k Q q =>
  PA.c (pa_cons (cE.pe X e) (cA.pa X es) hs) (h.run k fun v H1 w e1 k1 r1 p1 => p1.run k1 fun vs H2 ws e2 k2 r2 p2 => q _ H2 _ (e1.trans e2) k2.inv (.cons (r1.step e2) (r2.back e1)) p2)
theorem eva_nil : EvA F X [] ρ [] := ea_nil rfl
theorem eva_cons {ws : List W} (h : Ev F X e ρ w) (t : EvA F X es ρ ws) (hs : starEach (e :: es) X.env = (false, eval e X.env) :: starEach es X.env := by rfl) : EvA F X (e :: es) ρ (w :: ws) := ea_cons (h.then (t.then rfl)) hs
inductive Dats : List W → List Dat → Prop
  | nil : Dats [] []
  | cons {d : Dat} {ws : List W} {ds : List Dat} (t : Dats ws ds) : Dats (.d d :: ws) (d :: ds)
theorem RepWs.dats {vs : List V} {ws : List W} (r : RepWs F H0 H vs ws) : ∀ {ds : List Dat}, Dats ws ds → Reps H vs ds := by
  induction r with
  | nil => intro ds h; cases h; exact .nil
  | cons h t ih => intro ds hd; cases hd with | cons hd => exact .cons h (ih hd)
theorem Dats.length {ws : List W} {ds : List Dat} (h : Dats ws ds) : ws.length = ds.length := by
  induction h with
  | nil => rfl
  | cons t ih => simp [ih]
theorem RepWs.length {vs : List V} {ws : List W} (r : RepWs F H0 H vs ws) : vs.length = ws.length := by
  induction r with
  | nil => rfl
  | cons h t ih => simp [ih]
theorem ec_tup {x1} {Φ : W → Prop} (h : EA F X es ρ fun ws => ∃ ds : List Dat, Dats ws ds ∧ ds.length ≤ 1000 ∧ Φ (.d (.tup ds))) : EC F X (.Tuple es x1 pos) ρ Φ := fun H0 H σ k Q q =>
  PE.c (pe_tup (cA.pa X es)) (h.run k fun vs H1 ws e1 k1 r1 ⟨ds, hd, hl, p1⟩ => ⟨by
    rw [r1.length, hd.length]; exact Nat.le_trans hl (by decide), fun pp hp => q _ _ _ (e1.trans (Ext.new hp)) (F.mono _ _ (fun a o m ho => by rw [upd_ne (ne_of_none ho hp)]; exact ho) k1.inv)
      (repD (.tup upd_same ((r1.dats hd).mono (Ext.new (F := F) hp).tup))) p1⟩)
theorem inv_new {o : HO} {pp : Addr} (i : F.I H) (hp : H pp = none) : F.I (upd H pp o) := F.mono _ _ (fun a u m hu => by rw [upd_ne (ne_of_none hu hp)]; exact hu) i
theorem repL_new {vs : List V} {ds : List Dat} {pp : Addr} (i : F.I H) (hp : H pp = none) (r : Reps H vs ds) : RepW F H (upd H pp (.lst vs)) (.ref pp) (.lst true ds) :=
  ⟨pp, vs, rfl, upd_same, r.mono (Ext.new (F := F) hp).tup, F.fresh i hp, fun _ => hp⟩
theorem ec_lst {Φ : W → Prop} (h : EA F X es ρ fun ws => ∃ ds : List Dat, Dats ws ds ∧ ds.length ≤ 1000 ∧ Φ (.lst true ds)) : EC F X (.List es pos) ρ Φ := fun H0 H σ k Q q =>
  PE.c (pe_lst (cA.pa X es)) (h.run k fun vs H1 ws e1 k1 r1 ⟨ds, hd, hl, p1⟩ => ⟨by
    rw [r1.length, hd.length]; exact Nat.le_trans hl (by decide), fun pp hp => q _ _ _ (e1.trans (Ext.new hp)) (inv_new k1.inv hp) ((repL_new k1.inv hp (r1.dats hd)).back e1) p1⟩)
theorem ev_tup {x1} {ws : List W} {ds : List Dat} (h : EvA F X es ρ ws) (hd : Dats ws ds) (hl : ds.length ≤ 1000 := by first | decide | simp) : Ev F X (.Tuple es x1 pos) ρ (.d (.tup ds)) := ec_tup (h.then ⟨ds, hd, hl, rfl⟩)
theorem ev_lst {ws : List W} {ds : List Dat} (h : EvA F X es ρ ws) (hd : Dats ws ds) (hl : ds.length ≤ 1000 := by first | decide | simp) : Ev F X (.List es pos) ρ (.lst true ds) := ec_lst (h.then ⟨ds, hd, hl, rfl⟩)
/-! ### built-ins called by name -/
theorem ec_callB {id : String} {x : Str} {r : List V → Hp → VK → Prop} {Φ : W → Prop} (hc : CallR X (.builtin id) r) (hg : Gl X x) (hm : X.mg x = none) (hv : bootBuiltins x = some (.builtin id))
    (h : EA F X (e :: es) ρ fun ws => ∀ H H1 vs (Q : VK), F.I H1 → RepWs F H H1 vs ws → (∀ v H2 w, Ext F H1 H2 → F.I H2 → RepW F H1 H2 v w → Φ w → Q v H2) → r vs H1 Q) (hn : x ≠ "__name__" := by decide) (hdb : (x == ("__debug__" : Str)) = false := by decide)
    (he : starEach (e :: es) X.env = (false, eval e X.env) :: starEach es X.env := by rfl) (hpl : (backTo pos (starEach es X.env)).any (·.1) = false := by rfl) : EC F X (.Call (.Name x p) (e :: es) [] pos) ρ Φ := fun H0 H σ k Q q =>
  PE.c (pe_callB hc hg hm hv (cA.pa X _) hn hdb he hpl) (h.run k fun vs H1 ws e1 k1 r1 p1 => p1 H H1 vs Q k1.inv r1 fun v H2 w e2 i2 r2 p2 => q v H2 w (e1.trans e2) i2 (r2.back e1) p2)
theorem ec_callTy {id : String} {x : Str} {r : List V → Hp → VK → Prop} {Φ : W → Prop} (hc : CallR X (.type id) r) (hg : Gl X x) (hm : X.mg x = none) (hv : bootBuiltins x = some (.type id))
    (h : EA F X (e :: es) ρ fun ws => ∀ H H1 vs (Q : VK), F.I H1 → RepWs F H H1 vs ws → (∀ v H2 w, Ext F H1 H2 → F.I H2 → RepW F H1 H2 v w → Φ w → Q v H2) → r vs H1 Q) (hn : x ≠ "__name__" := by decide) (hdb : (x == ("__debug__" : Str)) = false := by decide)
    (he : starEach (e :: es) X.env = (false, eval e X.env) :: starEach es X.env := by rfl) (hpl : (backTo pos (starEach es X.env)).any (·.1) = false := by rfl) : EC F X (.Call (.Name x p) (e :: es) [] pos) ρ Φ := fun H0 H σ k Q q =>
  PE.c (pe_callTy hc hg hm hv (cA.pa X _) hn hdb he hpl) (h.run k fun vs H1 ws e1 k1 r1 p1 => p1 H H1 vs Q k1.inv r1 fun v H2 w e2 i2 r2 p2 => q v H2 w (e1.trans e2) i2 (r2.back e1) p2)
theorem RepWs.one {vs : List V} (r : RepWs F H0 H vs [w]) : ∃ v, vs = [v] ∧ RepW F H0 H v w := by
  cases r with | cons h t => cases t; exact ⟨_, rfl, h⟩
theorem RepWs.two {w2 : W} {vs : List V} (r : RepWs F H0 H vs [w, w2]) : ∃ v u, vs = [v, u] ∧ RepW F H0 H v w ∧ RepW F H0 H u w2 := by
  cases r with | cons h t => obtain ⟨u, rfl, h2⟩ := t.one; exact ⟨_, u, rfl, h, h2⟩
theorem ec_len {Φ : W → Prop} (hg : Gl X "len") (hm : X.mg "len" = none) (h : EC F X e ρ fun w => ∃ ds : List Dat, seqW w = some ds ∧ Φ (.d (.int (ds.length : Int)))) (hs : starEach [e] X.env = (false, eval e X.env) :: starEach [] X.env := by rfl) : EC F X (.Call (.Name "len" p) [e] [] pos) ρ Φ :=
  ec_callB call_len_seq hg hm boot_len (ea_cons (h.to fun w ⟨ds, hw, p1⟩ => ea_nil fun H H1 vs Q i1 r q => by
    obtain ⟨v, rfl, r1⟩ := r.one
    obtain ⟨pp, us, rfl, sq, rs⟩ := r1.seq (K := X.K) hw
    exact ⟨pp, us, rfl, sq, by rw [rs.length]; exact q _ H1 _ (.refl F H1) i1 (repD (.int _)) p1⟩) hs) (he := hs) (hpl := rfl)
theorem ev_len {ds : List Dat} (hg : Gl X "len") (hm : X.mg "len" = none) (h : Ev F X e ρ w) (hw : seqW w = some ds) (hs : starEach [e] X.env = (false, eval e X.env) :: starEach [] X.env := by rfl) : Ev F X (.Call (.Name "len" p) [e] [] pos) ρ (.d (.int (ds.length : Int))) :=
  ec_len hg hm (h.then ⟨ds, hw, rfl⟩) hs
/-- list(x) -/
theorem ec_list {Φ : W → Prop} (hg : Gl X "list") (hm : X.mg "list" = none) (h : EC F X e ρ fun w => ∃ ds : List Dat, seqW w = some ds ∧ Φ (.lst true ds)) (hs : starEach [e] X.env = (false, eval e X.env) :: starEach [] X.env := by rfl) : EC F X (.Call (.Name "list" p) [e] [] pos) ρ Φ :=
  ec_callTy call_list_of hg hm (by decide +kernel) (ea_cons (h.to fun w ⟨ds, hw, p1⟩ => ea_nil fun H H1 vs Q i1 r q => by
    obtain ⟨v, rfl, r1⟩ := r.one
    obtain ⟨pp, us, rfl, sq, rs⟩ := r1.seq (K := X.K) hw
    exact ⟨pp, us, rfl, sq, fun l hl => q _ _ _ (Ext.new hl) (inv_new i1 hl) (repL_new i1 hl rs) p1⟩) hs) (he := hs) (hpl := rfl)
/-- tuple(x), x a list -/
theorem ec_tuple {Φ : W → Prop} (hg : Gl X "tuple") (hm : X.mg "tuple" = none) (h : EC F X e ρ fun w => ∃ ds : List Dat, seqW w = some ds ∧ Φ (.d (.tup ds))) (hs : starEach [e] X.env = (false, eval e X.env) :: starEach [] X.env := by rfl) : EC F X (.Call (.Name "tuple" p) [e] [] pos) ρ Φ :=
  ec_callTy call_tuple_of hg hm (by decide +kernel) (ea_cons (h.to fun w ⟨ds, hw, p1⟩ => ea_nil fun H H1 vs Q i1 r q => by
    obtain ⟨v, rfl, r1⟩ := r.one
    cases w with
    | lst own es =>
      cases hw
      obtain ⟨a, us, rfl, h2, h3, h4, h5⟩ := r1
      exact ⟨a, us, rfl, .inl ⟨SqL.of h2, fun l hl => q _ _ _ (Ext.new hl) (inv_new i1 hl) (repD (.tup upd_same (h3.mono (Ext.new (F := F) hl).tup))) p1⟩⟩
    | d x =>
      cases x with
      | tup es =>
        cases hw
        have r' : Rep H1 v (.tup ds) := r1
        cases r' with
        | tup h1 h2 => exact ⟨_, _, rfl, .inr ⟨SqT.of h1, q _ H1 _ (.refl F H1) i1 (repD (.tup h1 h2)) p1⟩⟩
      | non => cases hw
      | bl b => cases hw
      | int i => cases hw
      | str x => cases hw
    | dic own kd => cases hw
    | deck => cases hw) hs) (he := hs) (hpl := rfl)
theorem ev_list {ds : List Dat} (hg : Gl X "list") (hm : X.mg "list" = none) (h : Ev F X e ρ w) (hw : seqW w = some ds) (hs : starEach [e] X.env = (false, eval e X.env) :: starEach [] X.env := by rfl) : Ev F X (.Call (.Name "list" p) [e] [] pos) ρ (.lst true ds) := ec_list hg hm (h.then ⟨ds, hw, rfl⟩) hs
theorem ev_tuple {ds : List Dat} (hg : Gl X "tuple") (hm : X.mg "tuple" = none) (h : Ev F X e ρ w) (hw : seqW w = some ds) (hs : starEach [e] X.env = (false, eval e X.env) :: starEach [] X.env := by rfl) : Ev F X (.Call (.Name "tuple" p) [e] [] pos) ρ (.d (.tup ds)) := ec_tuple hg hm (h.then ⟨ds, hw, rfl⟩) hs
/-- all, any of a list of bools -/
theorem ec_all {Φ : W → Prop} (hc : X.calm = true) (hg : Gl X "all") (hm : X.mg "all" = none) (h : EC F X e ρ fun w => ∃ (o : Bool) (bs : List Bool), w = .lst o (bs.map Dat.bl) ∧ Φ (.d (.bl (bs.all id)))) (hs : starEach [e] X.env = (false, eval e X.env) :: starEach [] X.env := by rfl) : EC F X (.Call (.Name "all" p) [e] [] pos) ρ Φ :=
  ec_callB (cr_all hc) hg hm (by decide +kernel) (ea_cons (h.to fun w ⟨o, bs, hw, p1⟩ => ea_nil fun H H1 vs Q i1 r q => by
    obtain ⟨v, rfl, r1⟩ := r.one
    subst hw
    obtain ⟨a, us, rfl, h2, h3, h4, h5⟩ := r1
    cases h3.bls
    exact ⟨a, bs, rfl, SqL.of h2, q _ H1 _ (.refl F H1) i1 (repD (.bl _)) p1⟩) hs) (he := hs) (hpl := rfl)
theorem ec_any {Φ : W → Prop} (hc : X.calm = true) (hg : Gl X "any") (hm : X.mg "any" = none) (h : EC F X e ρ fun w => ∃ (o : Bool) (bs : List Bool), w = .lst o (bs.map Dat.bl) ∧ Φ (.d (.bl (bs.any id)))) (hs : starEach [e] X.env = (false, eval e X.env) :: starEach [] X.env := by rfl) : EC F X (.Call (.Name "any" p) [e] [] pos) ρ Φ :=
  ec_callB (cr_any hc) hg hm (by decide +kernel) (ea_cons (h.to fun w ⟨o, bs, hw, p1⟩ => ea_nil fun H H1 vs Q i1 r q => by
    obtain ⟨v, rfl, r1⟩ := r.one
    subst hw
    obtain ⟨a, us, rfl, h2, h3, h4, h5⟩ := r1
    cases h3.bls
    exact ⟨a, bs, rfl, SqL.of h2, q _ H1 _ (.refl F H1) i1 (repD (.bl _)) p1⟩) hs) (he := hs) (hpl := rfl)
/-- min, max of two ints; abs; int -/
theorem ec_min {Φ : W → Prop} (hc : X.calm = true) (hg : Gl X "min") (hm : X.mg "min" = none) (h : EA F X [a, b] ρ fun ws => ∃ i j, ws = [.d (.int i), .d (.int j)] ∧ Φ (.d (.int (if j < i then j else i)))) (he : starEach [a, b] X.env = (false, eval a X.env) :: starEach [b] X.env := by rfl) (hpl : (backTo pos (starEach [b] X.env)).any (·.1) = false := by rfl) : EC F X (.Call (.Name "min" p) [a, b] [] pos) ρ Φ :=
  ec_callB (call_min2 hc) hg hm (by decide +kernel) (h.to fun ws ⟨i, j, e1, p1⟩ H H1 vs Q i1 r q => by
    subst e1
    obtain ⟨v, u, rfl, r1, r2⟩ := r.two
    cases r1; cases r2
    exact ⟨i, j, rfl, q _ H1 _ (.refl F H1) i1 (repD (.int _)) p1⟩) (he := he) (hpl := hpl)
theorem ec_max {Φ : W → Prop} (hc : X.calm = true) (hg : Gl X "max") (hm : X.mg "max" = none) (h : EA F X [a, b] ρ fun ws => ∃ i j, ws = [.d (.int i), .d (.int j)] ∧ Φ (.d (.int (if j > i then j else i)))) (he : starEach [a, b] X.env = (false, eval a X.env) :: starEach [b] X.env := by rfl) (hpl : (backTo pos (starEach [b] X.env)).any (·.1) = false := by rfl) : EC F X (.Call (.Name "max" p) [a, b] [] pos) ρ Φ :=
  ec_callB (call_max2 hc) hg hm (by decide +kernel) (h.to fun ws ⟨i, j, e1, p1⟩ H H1 vs Q i1 r q => by
    subst e1
    obtain ⟨v, u, rfl, r1, r2⟩ := r.two
    cases r1; cases r2
    exact ⟨i, j, rfl, q _ H1 _ (.refl F H1) i1 (repD (.int _)) p1⟩) (he := he) (hpl := hpl)
theorem ec_abs {Φ : W → Prop} (hg : Gl X "abs") (hm : X.mg "abs" = none) (h : EC F X e ρ fun w => ∃ i, w = .d (.int i) ∧ Φ (.d (.int (if i < 0 then -i else i)))) (hs : starEach [e] X.env = (false, eval e X.env) :: starEach [] X.env := by rfl) : EC F X (.Call (.Name "abs" p) [e] [] pos) ρ Φ :=
  ec_callB call_abs hg hm (by decide +kernel) (ea_cons (h.to fun w ⟨i, hw, p1⟩ => ea_nil fun H H1 vs Q i1 r q => by
    obtain ⟨v, rfl, r1⟩ := r.one
    subst hw; cases r1
    exact ⟨i, rfl, q _ H1 _ (.refl F H1) i1 (repD (.int _)) p1⟩) hs) (he := hs) (hpl := rfl)
theorem ec_int {Φ : W → Prop} (hg : Gl X "int") (hm : X.mg "int" = none) (h : EC F X e ρ fun w => ∃ i, w = .d (.int i) ∧ Φ (.d (.int i))) (hs : starEach [e] X.env = (false, eval e X.env) :: starEach [] X.env := by rfl) : EC F X (.Call (.Name "int" p) [e] [] pos) ρ Φ :=
  ec_callTy call_int1 hg hm (by decide +kernel) (ea_cons (h.to fun w ⟨i, hw, p1⟩ => ea_nil fun H H1 vs Q i1 r q => by
    obtain ⟨v, rfl, r1⟩ := r.one
    subst hw; cases r1
    exact .inl ⟨i, rfl, q _ H1 _ (.refl F H1) i1 (repD (.int _)) p1⟩) hs) (he := hs) (hpl := rfl)
/-- max of a list of ints -/
theorem ec_maxL {Φ : W → Prop} (hc : X.calm = true) (hg : Gl X "max") (hm : X.mg "max" = none) (h : EC F X e ρ fun w => ∃ (o : Bool) (ns : List Int), w = .lst o (ns.map Dat.int) ∧ 0 < ns.length ∧ ∀ m, m ∈ ns → (∀ y, y ∈ ns → y ≤ m) → Φ (.d (.int m))) (hs : starEach [e] X.env = (false, eval e X.env) :: starEach [] X.env := by rfl) :
    EC F X (.Call (.Name "max" p) [e] [] pos) ρ Φ :=
  ec_callB (cr_max hc) hg hm (by decide +kernel) (ea_cons (h.to fun w ⟨o, ns, hw, hl, p1⟩ => ea_nil fun H H1 vs Q i1 r q => by
    obtain ⟨v, rfl, r1⟩ := r.one
    subst hw
    obtain ⟨a, us, rfl, h2, h3, h4, h5⟩ := r1
    cases h3.ints
    exact ⟨a, ns, rfl, SqL.of h2, hl, fun m hm hy => q _ H1 _ (.refl F H1) i1 (repD (.int _)) (p1 m hm hy)⟩) hs) (he := hs) (hpl := rfl)
/-! ### arithmetic by conditions -/
theorem ec_opC {op : Operator} {C : Int → Int → Prop} {g : Int → Int → Int} {Φ : W → Prop} (ho : OpR X (binaryOp op) (rI C fun i j => .int (g i j)))
    (h : EC F X a ρ fun wa => ∃ i, wa = .d (.int i) ∧ EC F X b ρ fun wb => ∃ j, wb = .d (.int j) ∧ C i j ∧ Φ (.d (.int (g i j)))) : EC F X (.BinOp a op b pos) ρ Φ :=
  ec_op ho (h.to fun wa ⟨i, ea, h2⟩ => h2.to fun wb ⟨j, eb, hc, p⟩ H H1 va vb Q i1 r1 r2 q => by subst ea; subst eb; cases r1; cases r2; exact ⟨i, j, rfl, rfl, hc, q _ H1 _ (.refl F H1) i1 (repD (.int _)) p⟩)
theorem ec_mul {Φ : W → Prop} (h : EC F X a ρ fun wa => ∃ i, wa = .d (.int i) ∧ EC F X b ρ fun wb => ∃ j, wb = .d (.int j) ∧ CMul i j ∧ Φ (.d (.int (i * j)))) : EC F X (.BinOp a .Mult b pos) ρ Φ := ec_opC op_mul h
theorem ec_mod {Φ : W → Prop} (h : EC F X a ρ fun wa => ∃ i, wa = .d (.int i) ∧ EC F X b ρ fun wb => ∃ j, wb = .d (.int j) ∧ 0 < j ∧ Φ (.d (.int (i % j)))) : EC F X (.BinOp a .Mod b pos) ρ Φ := ec_opC op_mod h
theorem ec_fdiv {Φ : W → Prop} (h : EC F X a ρ fun wa => ∃ i, wa = .d (.int i) ∧ EC F X b ρ fun wb => ∃ j, wb = .d (.int j) ∧ CDiv i j ∧ Φ (.d (.int (i / j)))) : EC F X (.BinOp a .FloorDiv b pos) ρ Φ := ec_opC op_fdiv h
theorem ec_pow {Φ : W → Prop} (h : EC F X a ρ fun wa => ∃ i, wa = .d (.int i) ∧ EC F X b ρ fun wb => ∃ j, wb = .d (.int j) ∧ CPow i j ∧ Φ (.d (.int (i ^ j.toNat)))) : EC F X (.BinOp a .Pow b pos) ρ Φ := ec_opC op_pow h
theorem ec_neg {Φ : W → Prop} (h : EC F X a ρ fun w => ∃ i, w = .d (.int i) ∧ Φ (.d (.int (-i)))) : EC F X (.UnaryOp .USub a pos) ρ Φ := fun H0 H σ k Q q =>
  PE.c (pe_un un_neg (cE.pe X a)) (h.run k fun va H1 wa e1 k1 r1 ⟨i, ew, h1⟩ => by subst ew; cases r1; exact ⟨i, rfl, q _ H1 _ e1 k1.inv (repD (.int _)) h1⟩)
end
end Md
end MdDPart
section MdEPart
set_option Elab.async false
set_option linter.all false
set_option maxRecDepth 100000
set_option maxHeartbeats 2000000
/-! Calls of own defs; statements. -/
namespace Md
open PySem L2

def Spec := List W → (W → Prop) → Prop
def noDeck (ws : List W) : Bool := ws.all fun w => match w with | .deck => false | _ => true
def spD (C : Fr → Prop) (S : Spec) : Sp := fun vs H Q _ => ∃ (F : Fr) (ws : List W) (Φ : W → Prop), C F ∧ F.I H ∧ RepWs F H H vs ws ∧ S ws Φ ∧ ∀ v H2 w, Ext F H H2 → F.I H2 → RepW F H H2 v w → Φ w → Q v H2
def CP : Fr → Prop := fun F => F = F0
def HasFn (P : Program) (w : World) (K : PySem.W.Frag) (mg : Str → Option Value) (base : Heap) (x : Str) (k : Nat) (sp : Sp) : Prop :=
  ∃ f fd ps, FnOk P w K mg base CX0 k f fd ps sp ∧ mg x = some (.ref f) ∧ PySem.W.keepIn K (.ref f) = true ∧ Binds K fd ps []
section
variable {F : Fr} {X : Cx} {ρ : Env1} {H0 H H1 H2 : Hp} {σ : L2.St} {a b c e : Expr} {es : List Expr} {pos p : Pos} {v : V} {w : W}
theorem RepWs.rd {vs : List V} {ws : List W} (r : RepWs F H0 H vs ws) : RepWs F H1 H vs (ws.map W.rd) := by
  induction r with
  | nil => exact .nil
  | cons h t ih => exact .cons h.rd ih
theorem RepWs.to0 {vs : List V} {ws : List W} (r : RepWs F H0 H vs ws) (hd : noDeck ws = true) : RepWs F0 H0 H vs ws := by
  induction r with
  | nil => exact .nil
  | cons h t ih =>
    unfold noDeck at hd
    rw [List.all_cons, Bool.and_eq_true] at hd
    refine .cons (h.to0 fun z => ?_) (ih hd.2)
    subst z
    cases hd.1
theorem noDeck_rd : ∀ {ws : List W}, noDeck ws = true → noDeck (ws.map W.rd) = true
  | [], _ => rfl
  | w :: ws, h => by
    unfold noDeck at h ⊢
    rw [List.map_cons, List.all_cons, Bool.and_eq_true]
    rw [List.all_cons, Bool.and_eq_true] at h
    exact ⟨(by cases w <;> first | rfl | (cases h.1)), noDeck_rd h.2⟩
/-- f(e, ..), f a def that leaves the deck alone -/
theorem ec_call0 {x : Str} {k : Nat} {S : Spec} {Φ : W → Prop} (hf : HasFn X.prog X.w X.K X.mg X.base x k (spD CP S)) (hr : Room k X.A) (hg : Gl X x) (h : EA F X (e :: es) ρ fun ws => noDeck ws = true ∧ S (ws.map W.rd) fun w => w.res = true ∧ w ≠ .deck ∧ Φ w)
    (hdb : (x == ("__debug__" : Str)) = false := by decide) (he : starEach (e :: es) X.env = (false, eval e X.env) :: starEach es X.env := by rfl) (hpl : (backTo pos (starEach es X.env)).any (·.1) = false := by rfl) : EC F X (.Call (.Name x p) (e :: es) [] pos) ρ Φ := fun H0 H σ kn Q q => by
  obtain ⟨f, fd, ps, G, hm, hk, hb⟩ := hf
  refine PE.c (pe_call G hr hg hm hk hb .nil pass0 (cA.pa X _) hdb he hpl) (h.run kn fun vs H1 ws e1 k1 r1 ⟨nd, hS⟩ => ?_)
  show spD CP S (vs ++ []) H1 Q E0
  rw [List.append_nil]
  exact ⟨F0, _, _, rfl, trivial, (r1.rd (H1 := H1)).to0 (noDeck_rd nd), hS, fun v H2 w e2 _ r2 ⟨h1, h2, h3⟩ => q v H2 w (e1.trans e2.f0) (e2.inv k1.inv) ((r2.f0 k1.inv h1 h2).back e1) h3⟩
/-- .. that may draw -/
theorem ec_callD {x : Str} {k : Nat} {S : Spec} {C : Fr → Prop} {Φ : W → Prop} (hF : C F) (hf : HasFn X.prog X.w X.K X.mg X.base x k (spD C S)) (hr : Room k X.A) (hg : Gl X x) (h : EA F X (e :: es) ρ fun ws => S (ws.map W.rd) Φ)
    (hdb : (x == ("__debug__" : Str)) = false := by decide) (he : starEach (e :: es) X.env = (false, eval e X.env) :: starEach es X.env := by rfl) (hpl : (backTo pos (starEach es X.env)).any (·.1) = false := by rfl) : EC F X (.Call (.Name x p) (e :: es) [] pos) ρ Φ := fun H0 H σ kn Q q => by
  obtain ⟨f, fd, ps, G, hm, hk, hb⟩ := hf
  refine PE.c (pe_call G hr hg hm hk hb .nil pass0 (cA.pa X _) hdb he hpl) (h.run kn fun vs H1 ws e1 k1 r1 hS => ?_)
  show spD C S (vs ++ []) H1 Q E0
  rw [List.append_nil]
  exact ⟨F, _, _, hF, k1.inv, r1.rd, hS, fun v H2 w e2 i2 r2 h3 => q v H2 w (e1.trans e2) i2 (r2.back e1) h3⟩
theorem ev_call0 {x : Str} {k : Nat} {S : Spec} {ws : List W} (hf : HasFn X.prog X.w X.K X.mg X.base x k (spD CP S)) (hr : Room k X.A) (hg : Gl X x) (h : EvA F X (e :: es) ρ ws) (hS : S (ws.map W.rd) fun u => u.res = true ∧ u ≠ .deck ∧ u = w) (nd : noDeck ws = true := by rfl)
    (hdb : (x == ("__debug__" : Str)) = false := by decide) (he : starEach (e :: es) X.env = (false, eval e X.env) :: starEach es X.env := by rfl) (hpl : (backTo pos (starEach es X.env)).any (·.1) = false := by rfl) : Ev F X (.Call (.Name x p) (e :: es) [] pos) ρ w :=
  ec_call0 hf hr hg (h.then ⟨nd, hS⟩) hdb he hpl
end

/-! ### statements -/
def cS (X : Cx) (ss : List Stmt) : TS := fun D σ H => ∀ pins s, Inv X pins σ H s → wpAny (model X.prog X.w) X.A (execs ss X.env) (SP X pins D) X.xe s
def cS1 (X : Cx) (st : Stmt) : TS := fun D σ H => ∀ pins s, Inv X pins σ H s → wpAny (model X.prog X.w) X.A (exec st X.env) (SP X pins D) X.xe s
theorem cS.ps (X : Cx) (ss : List Stmt) : PSs X ss (cS X ss) := ⟨fun pins s σ H D I h => h pins s I⟩
theorem cS1.ps (X : Cx) (st : Stmt) : PS X st (cS1 X st) := ⟨fun pins s σ H D I h => h pins s I⟩
theorem PSs.c {X : Cx} {ss : List Stmt} {t : TS} (h : PSs X ss t) {σ : L2.St} {H : Hp} {D : Ends} (q : t D σ H) : cS X ss D σ H := fun pins s I => h.run pins s σ H D I q
theorem PS.c {X : Cx} {st : Stmt} {t : TS} (h : PS X st t) {σ : L2.St} {H : Hp} {D : Ends} (q : t D σ H) : cS1 X st D σ H := fun pins s I => h.run pins s σ H D I q

structure DE where
  nx : Env1 → Prop
  rt : W → Prop
  bk : Env1 → Prop := fun _ => False
  ct : Env1 → Prop := fun _ => False
/-- a is no own mutable of a slot -/
def Free (σ : L2.St) (ρ : Env1) (a : Addr) : Prop := ∀ (i : Nat) (w : W), ρ[i]? = some (some w) → w.own = true → σ[i]? ≠ some (some (.ref a))
structure Keep (F : Fr) (H : Hp) (σ : L2.St) (ρ : Env1) (H' : Hp) (σ' : L2.St) (ρ' : Env1) : Prop where
  tup : TupK H H'
  free : ∀ a o, ¬ F.M a → H a = some o → Free σ ρ a → H' a = some o ∧ Free σ' ρ' a
theorem Keep.refl {F : Fr} {H : Hp} {σ : L2.St} {ρ : Env1} : Keep F H σ ρ H σ ρ := ⟨.refl H, fun _ _ _ h f => ⟨h, f⟩⟩
theorem Keep.trans {F : Fr} {H H1 H2 : Hp} {σ σ1 σ2 : L2.St} {ρ ρ1 ρ2 : Env1} (x : Keep F H σ ρ H1 σ1 ρ1) (y : Keep F H1 σ1 ρ1 H2 σ2 ρ2) : Keep F H σ ρ H2 σ2 ρ2 :=
  ⟨x.tup.trans y.tup, fun a o m h f => let ⟨h1, f1⟩ := x.free a o m h f; y.free a o m h1 f1⟩
theorem Keep.ext {F : Fr} {H H1 : Hp} {σ : L2.St} {ρ : Env1} (e : Ext F H H1) : Keep F H σ ρ H1 σ ρ := ⟨e.tup, fun a o m h f => ⟨e.keep a o m h, f⟩⟩
/-- from an end over what is known to an end over slots and heap -/
structure Lift (F : Fr) (H0 H : Hp) (σ : L2.St) (ρ : Env1) (D : DE) (D' : Ends) : Prop where
  nx : ∀ σ' H' ρ', Kn F H0 H' σ' ρ' → Keep F H σ ρ H' σ' ρ' → D.nx ρ' → D'.nx σ' H'
  bk : ∀ σ' H' ρ', Kn F H0 H' σ' ρ' → Keep F H σ ρ H' σ' ρ' → D.bk ρ' → D'.bk σ' H'
  ct : ∀ σ' H' ρ', Kn F H0 H' σ' ρ' → Keep F H σ ρ H' σ' ρ' → D.ct ρ' → D'.ct σ' H'
  rt : ∀ v H' w, Ext F H0 H' → F.I H' → RepW F H0 H' v w → D.rt w → D'.rt v H'
def SS (F : Fr) (X : Cx) (ss : List Stmt) (ρ : Env1) (D : DE) : Prop := ∀ H0 H σ D', Kn F H0 H σ ρ → Lift F H0 H σ ρ D D' → cS X ss D' σ H
def S1 (F : Fr) (X : Cx) (st : Stmt) (ρ : Env1) (D : DE) : Prop := ∀ H0 H σ D', Kn F H0 H σ ρ → Lift F H0 H σ ρ D D' → cS1 X st D' σ H
section
variable {F : Fr} {X : Cx} {ρ ρ' : Env1} {H0 H H1 H2 : Hp} {σ σ' : L2.St} {a b c e : Expr} {es : List Expr} {pos p : Pos} {v : V} {w : W} {D : DE} {D' : Ends} {st : Stmt} {ss : List Stmt}
theorem Lift.from (l : Lift F H0 H σ ρ D D') (k : Keep F H σ ρ H1 σ' ρ') : Lift F H0 H1 σ' ρ' D D' :=
  ⟨fun a b c kn kp d => l.nx a b c kn (k.trans kp) d, fun a b c kn kp d => l.bk a b c kn (k.trans kp) d, fun a b c kn kp d => l.ct a b c kn (k.trans kp) d, l.rt⟩
theorem ss_nil (h : D.nx ρ) : SS F X [] ρ D := fun H0 H σ D' k l => PSs.c pss_nil (l.nx σ H ρ k .refl h)
theorem ss_cons (h : S1 F X st ρ { D with nx := fun ρ' => SS F X ss ρ' D }) : SS F X (st :: ss) ρ D := fun H0 H σ D' k l =>
  PSs.c (pss_cons (cS1.ps X st) (cS.ps X ss)) (h H0 H σ { D' with nx := fun σ' H' => cS X ss D' σ' H' } k ⟨fun σ' H' ρ' kn kp d => d H0 H' σ' D' kn (l.from kp), l.bk, l.ct, l.rt⟩)
theorem ss_one (h : S1 F X st ρ D) : SS F X [st] ρ D := fun H0 H σ D' k l => PSs.c (pss_one (cS1.ps X st)) (h H0 H σ D' k l)
theorem keep_set (k : Kn F H0 H σ ρ) (e : Ext F H H2) (r : RepW F H H2 v w) (hw : w.res = true) (i : Nat) : Keep F H σ ρ H2 (σ.set i (some v)) (ρ.set i (some w)) := by
  refine ⟨e.tup, fun a o m h f => ⟨e.keep a o m h, fun j u hj ho hs => ?_⟩⟩
  by_cases hji : j = i
  · subst hji
    by_cases hl : j < ρ.length
    · rw [List.getElem?_set_self hl] at hj
      rw [List.getElem?_set_self (by rw [k.len]; exact hl)] at hs
      cases hj
      obtain ⟨b, o', hb, _, _, hn⟩ := r.addr (W.own_mu ho)
      cases hs
      cases hb
      rw [hn ho] at h
      cases h
    · rw [List.getElem?_eq_none (by simpa using hl)] at hj; cases hj
  · rw [List.getElem?_set_ne (Ne.symm hji)] at hj hs
    exact f j u hj ho hs
/-- name = e -/
theorem s_set {i : Nat} {x : Str} {p' : Pos} (hN : X.N.Nodup) (hi : X.N[i]? = some x) (hx : Loc X.env.scope x) (h : EC F X e ρ fun w => w.res = true ∧ D.nx (ρ.set i (some w))) (hs : swapsWith e (some (.Name x p')) pos.line X.env = pure false := by rfl)
    (hf : X.fn x = true ∨ X.env.scope.names.lookup x = some .local := by first | exact .inl rfl | exact .inr rfl) : S1 F X (.Assign [.Name x p'] e pos) ρ D := fun H0 H σ D' k l =>
  PS.c (ps_set hN hi hx (cE.pe X e) hs hf) (h H0 H σ k _ fun v H2 w e1 i1 r1 ⟨hw, d⟩ => l.nx _ _ _ (k.set e1 i1 r1 hw i) (keep_set k e1 r1 hw i) d)
/-- if -/
theorem s_if {t : Expr} {sa sb : List Stmt} (h : ET F X t ρ fun b => (b = true → SS F X sa ρ D) ∧ (b = false → SS F X sb ρ D)) : S1 F X (.If t sa sb pos) ρ D := fun H0 H σ D' k l =>
  PS.c (ps_if (cT.pt X t) (cS.ps X sa) (cS.ps X sb)) (h.run k fun b H1 e1 k1 ⟨h1, h2⟩ => by
    cases b with
    | true => exact h1 rfl H0 H1 σ D' k1 (l.from (.ext e1))
    | false => exact h2 rfl H0 H1 σ D' k1 (l.from (.ext e1)))
/-- return e -/
theorem s_ret (h : EC F X e ρ D.rt) : S1 F X (.Return (some e) pos) ρ D := fun H0 H σ D' k l =>
  PS.c (ps_ret (cE.pe X e)) (h H0 H σ k _ fun v H2 w e1 i1 r1 d => l.rt v H2 w (k.ext.trans e1) i1 (r1.back k.ext) d)
theorem s_retN (h : D.rt (.d .non)) : S1 F X (.Return none pos) ρ D := fun H0 H σ D' k l => PS.c ps_retN (l.rt .non H _ k.ext k.inv (repD .non) h)
/-- return x, x's list with it -/
theorem s_retV {i : Nat} {x : Str} {p' : Pos} (hi : X.N[i]? = some x) (hv : Vis X.env.scope x) (hw : ρ[i]? = some (some w)) (h : D.rt w) (hd : (x == ("__debug__" : Str)) = false := by decide) (hcd : (x == ("__classdict__" : Str)) = false := by decide) : S1 F X (.Return (some (.Name x p')) pos) ρ D := fun H0 H σ D' k l => by
  obtain ⟨v, h1, h2⟩ := k.get i w hw
  exact PS.c (ps_ret (pe_var hi hv hd hcd)) ⟨v, h1, l.rt v H w k.ext k.inv h2 h⟩
theorem s_pass (h : D.nx ρ) : S1 F X (.Pass pos) ρ D := fun H0 H σ D' k l => PS.c ps_pass (l.nx σ H ρ k .refl h)
theorem s_break (h : D.bk ρ) : S1 F X (.Break pos) ρ D := fun H0 H σ D' k l => PS.c ps_break (l.bk σ H ρ k .refl h)
theorem s_continue (h : D.ct ρ) : S1 F X (.Continue pos) ρ D := fun H0 H σ D' k l => PS.c ps_continue (l.ct σ H ρ k .refl h)
theorem s_never (h : False) : S1 F X st ρ D := h.elim
/-- e; -/
theorem s_expr (h : EC F X e ρ fun _ => D.nx ρ) (hs : swapsWith e none pos.line X.env = pure false := by rfl) : S1 F X (.Expr e pos) ρ D := fun H0 H σ D' k l =>
  PS.c (ps_expr (cE.pe X e) hs) (h.run k fun v H2 w e1 k1 r1 d => l.nx σ H2 ρ k1 (.ext e1) d)
/-- x += e, ints -/
theorem ip_addI : PIp X .Add (ipI fun i j => i + j) := ip_add
theorem s_augI {i : Nat} {x : Str} {p' : Pos} {n : Int} (hN : X.N.Nodup) (hi : X.N[i]? = some x) (hx : Loc X.env.scope x) (hw : ρ[i]? = some (some (.d (.int n)))) (h : EC F X e ρ fun w => ∃ m, w = .d (.int m) ∧ D.nx (ρ.set i (some (.d (.int (n + m))))))
    (hf : X.fn x = true ∨ X.env.scope.names.lookup x = some .local := by first | exact .inl rfl | exact .inr rfl) : S1 F X (.AugAssign (.Name x p') .Add e pos) ρ D := fun H0 H σ D' k l => by
  obtain ⟨v, h1, h2⟩ := k.get i _ hw
  cases h2
  refine PS.c (ps_aug hN hi hx (cE.pe X e) ip_addI hf) ⟨_, h1, h.run k fun u H2 w e1 k1 r1 ⟨m, ew, d⟩ => ?_⟩
  subst ew; cases r1
  refine ⟨n, m, rfl, rfl, l.nx _ _ _ (k.set (w := .d (.int (n + m))) e1 k1.inv (repD (.int _)) rfl i) (keep_set k e1 (w := .d (.int (n + m))) (repD (.int _)) rfl i) d⟩
end
end Md
end MdEPart
section MdFPart
set_option Elab.async false
set_option linter.all false
set_option maxRecDepth 100000
set_option maxHeartbeats 2000000
/-! Writes, unpacking, loops, comprehensions. -/
namespace Md
open PySem L2
section
variable {F : Fr} {X : Cx} {ρ ρ' : Env1} {H0 H H1 H2 : Hp} {σ σ' : L2.St} {a b c e : Expr} {es : List Expr} {pos p : Pos} {v : V} {w : W} {D : DE} {D' : Ends} {st : Stmt} {ss : List Stmt}
theorem tupK_upd {q : Addr} {o : HO} (h : ∀ xs, H q ≠ some (.tup xs)) : TupK H (upd H q o) := fun x xs e => by
  rw [upd_ne (fun z => h xs (by rw [← z]; exact e))]
  exact e
theorem own_obj {q : Addr} {i : Nat} (k : Kn F H0 H σ ρ) (hi : ρ[i]? = some (some w)) (ho : w.own = true) (hs : σ[i]? = some (some (.ref q))) : (∀ xs, H q ≠ some (.tup xs)) ∧ ¬ F.M q ∧ H0 q = none := by
  obtain ⟨v, h1, h2⟩ := k.get i w hi
  rw [hs] at h1
  cases h1
  cases w with
  | d x => cases ho
  | lst own ds => obtain ⟨b, vs, e1, e2, e3, e4, e5⟩ := h2; cases e1; exact ⟨fun xs z => (by rw [e2] at z; cases z), e4, e5 ho⟩
  | dic own ds => obtain ⟨b, vs, e1, e2, e3, e4, e5⟩ := h2; cases e1; exact ⟨fun xs z => (by rw [e2] at z; cases z), e4, e5 ho⟩
  | deck => cases ho
theorem Kn.write {q : Addr} {i : Nat} {o : HO} {w' : W} (k : Kn F H0 H σ ρ) (hi : ρ[i]? = some (some w)) (ho : w.own = true) (hs : σ[i]? = some (some (.ref q))) (hw' : w'.own = true) (rep : RepW F H0 (upd H q o) (.ref q) w') :
    Kn F H0 (upd H q o) σ (ρ.set i (some w')) ∧ Keep F H σ ρ (upd H q o) σ (ρ.set i (some w')) := by
  obtain ⟨nt, nm, n0⟩ := own_obj k hi ho hs
  have tk : TupK H (upd H q o) := tupK_upd nt
  have hl : i < ρ.length := (List.getElem?_eq_some_iff.mp hi).1
  have pick : ∀ (j : Nat) (u : W), (ρ.set i (some w'))[j]? = some (some u) → (j = i ∧ u = w') ∨ (j ≠ i ∧ ρ[j]? = some (some u)) := fun j u h => by
    by_cases hj : j = i
    · subst hj
      rw [List.getElem?_set_self hl] at h; cases h; exact .inl ⟨rfl, rfl⟩
    · exact .inr ⟨hj, by rwa [List.getElem?_set_ne (Ne.symm hj)] at h⟩
  refine ⟨⟨⟨fun x u m h => ?_, k.ext.tup.trans tk⟩, ?_, by simp [k.len], fun j u h => ?_, fun x y u u' z ne hx hy h1 h2 h3 h4 => ?_⟩, tk, fun x u m h f => ⟨?_, fun j y hj hy hz => ?_⟩⟩
  · rw [upd_ne (ne_of_none h n0)]
    exact k.ext.keep x u m h
  · refine F.mono _ _ (fun x u m h => ?_) k.inv
    rw [upd_ne (fun z => nm (by rw [← z]; exact m))]
    exact h
  · rcases pick j u h with ⟨rfl, rfl⟩ | ⟨n, h'⟩
    · exact ⟨_, hs, rep⟩
    · obtain ⟨v, h1, h2⟩ := k.get j u h'
      refine ⟨v, h1, ?_⟩
      cases u with
      | d x => exact Rep.mono tk h2
      | lst own ds =>
        obtain ⟨b, vs, e1, e2, e3, e4, e5⟩ := h2
        subst e1
        have hb : b ≠ q := fun z => k.sep i j w _ q (Ne.symm n) hi h' ho rfl hs (by rw [← z]; exact h1)
        exact ⟨b, vs, rfl, by rw [upd_ne hb]; exact e2, e3.mono tk, e4, e5⟩
      | dic own ds =>
        obtain ⟨b, vs, e1, e2, e3, e4, e5⟩ := h2
        subst e1
        have hb : b ≠ q := fun z => k.sep i j w _ q (Ne.symm n) hi h' ho rfl hs (by rw [← z]; exact h1)
        exact ⟨b, vs, rfl, by rw [upd_ne hb]; exact e2, e3.mono tk, e4, e5⟩
      | deck => exact h2
  · rcases pick x u hx with ⟨rfl, rfl⟩ | ⟨n, hx'⟩
    · rcases pick y u' hy with ⟨rfl, rfl⟩ | ⟨n', hy'⟩
      · exact ne rfl
      · exact k.sep x y w u' z ne hi hy' ho h2 h3 h4
    · rcases pick y u' hy with ⟨rfl, rfl⟩ | ⟨n', hy'⟩
      · exact k.sep x y u w z ne hx' hi h1 (W.own_mu ho) h3 h4
      · exact k.sep x y u u' z ne hx' hy' h1 h2 h3 h4
  · have hb : x ≠ q := fun z => f i w hi ho (by rw [z]; exact hs)
    rw [upd_ne hb]
    exact h
  · rcases pick j y hj with ⟨rfl, rfl⟩ | ⟨n, h'⟩
    · exact f j w hi ho hz
    · exact f j y h' hy hz
/-- the list of a slot -/
theorem Kn.list {i : Nat} {own : Bool} {ds : List Dat} (k : Kn F H0 H σ ρ) (hi : ρ[i]? = some (some (.lst own ds))) : ∃ q vs, σ[i]? = some (some (.ref q)) ∧ H q = some (.lst vs) ∧ Reps H vs ds ∧ ¬ F.M q ∧ (own = true → H0 q = none) := by
  obtain ⟨v, h1, q, vs, rfl, h2, h3, h4, h5⟩ := k.get i _ hi
  exact ⟨q, vs, h1, h2, h3, h4, h5⟩
theorem Kn.dict {i : Nat} {own : Bool} {kd : List (Int × Dat)} (k : Kn F H0 H σ ρ) (hi : ρ[i]? = some (some (.dic own kd))) : ∃ q ks, σ[i]? = some (some (.ref q)) ∧ H q = some (.dK ks) ∧ RepK H ks kd ∧ ¬ F.M q ∧ (own = true → H0 q = none) := by
  obtain ⟨v, h1, q, vs, rfl, h2, h3, h4, h5⟩ := k.get i _ hi
  exact ⟨q, vs, h1, h2, h3, h4, h5⟩
theorem Kn.wlist {i : Nat} {q : Addr} {vs : List V} {ds ds' : List Dat} (k : Kn F H0 H σ ρ) (hi : ρ[i]? = some (some (.lst true ds))) (hs : σ[i]? = some (some (.ref q))) (hr : Reps H vs ds') :
    Kn F H0 (upd H q (.lst vs)) σ (ρ.set i (some (.lst true ds'))) ∧ Keep F H σ ρ (upd H q (.lst vs)) σ (ρ.set i (some (.lst true ds'))) := by
  obtain ⟨nt, nm, n0⟩ := own_obj k hi rfl hs
  exact k.write hi rfl hs rfl ⟨q, vs, rfl, upd_same, hr.mono (tupK_upd nt), nm, fun _ => n0⟩
theorem Kn.wdict {i : Nat} {q : Addr} {ks : List (Key × V)} {kd kd' : List (Int × Dat)} (k : Kn F H0 H σ ρ) (hi : ρ[i]? = some (some (.dic true kd))) (hs : σ[i]? = some (some (.ref q))) (hr : RepK H ks kd') :
    Kn F H0 (upd H q (.dK ks)) σ (ρ.set i (some (.dic true kd'))) ∧ Keep F H σ ρ (upd H q (.dK ks)) σ (ρ.set i (some (.dic true kd'))) := by
  obtain ⟨nt, nm, n0⟩ := own_obj k hi rfl hs
  exact k.write hi rfl hs rfl ⟨q, ks, rfl, upd_same, hr.mono (tupK_upd nt), nm, fun _ => n0⟩
/-- x.append(e) -/
theorem s_app {i : Nat} {x : Str} {p1 apos cpos : Pos} {ds : List Dat} (hi : X.N[i]? = some x) (hv : Vis X.env.scope x) (hw : ρ[i]? = some (some (.lst true ds))) (hl : ds.length < 100000)
    (h : EC F X e ρ fun w => ∃ d, w = .d d ∧ D.nx (ρ.set i (some (.lst true (ds ++ [d])))))
    (hd : (x == ("__debug__" : Str)) = false := by decide) (hcd : (x == ("__classdict__" : Str)) = false := by decide)
    (hbase : attributeBase (.Name x p1) "append" X.env (eval (.Name x p1) X.env) = eval (.Name x p1) X.env := by rfl)
    (hfew : ((backTo cpos (starEach [e] X.env)).all (fun x => !x.1) && (backToKw cpos (keywordEach [] X.env)).all (fun x => x.1.isSome) && decide ([e].length + ([] : List Keyword).length + (if ([] : List Keyword).isEmpty then 0 else 1) < 30)) = true := by rfl)
    (hline : (apos.endLine == cpos.line) = true := by rfl) (hst : starEach [e] X.env = (false, eval e X.env) :: starEach [] X.env := by rfl)
    (hs : swapsWith (.Call (.Attribute (.Name x p1) "append" apos) [e] [] cpos) none pos.line X.env = pure false := by rfl) : S1 F X (.Expr (.Call (.Attribute (.Name x p1) "append" apos) [e] [] cpos) pos) ρ D := fun H0 H σ D' k l => by
  obtain ⟨q, vs, s1, s2, s3, s4, s5⟩ := k.list hw
  refine PS.c (ps_expr (pe_bm PySem.F.plainAttrs_list PySem.F.slot_list_append PySem.F.type_list_append mt_append (pe_var hi hv hd hcd) (pa_cons (cE.pe X e) pa_nil hst) hbase hfew hline hst rfl) hs) ?_
  refine ⟨_, s1, .inl ⟨rfl, vs, SqL.of s2⟩, h.run k fun u H2 w2 e1 k1 r1 ⟨d, ew, dn⟩ => ?_⟩
  subst ew
  have s2' := e1.keep q _ s4 s2
  have s3' := s3.mono e1.tup
  obtain ⟨kn, kp⟩ := k1.wlist hw s1 (s3'.append (.one r1))
  exact ⟨q, vs, u, rfl, rfl, s2', by rw [s3.length]; exact Nat.lt_of_lt_of_le hl (by decide), l.nx _ _ _ kn ((Keep.ext e1).trans kp) dn⟩
/-- x[j] = e, x a list -/
theorem s_setL {i : Nat} {x : Str} {p1 pos' : Pos} {ds : List Dat} {idx value : Expr} (hi : X.N[i]? = some x) (hv : Vis X.env.scope x) (hw : ρ[i]? = some (some (.lst true ds)))
    (h : EC F X value ρ fun w => ∃ d, w = .d d ∧ EC F X idx ρ fun u => ∃ (m : Int) (j : Nat), u = .d (.int m) ∧ ixN ds.length m = some j ∧ D.nx (ρ.set i (some (.lst true (ds.set j d)))))
    (hd : (x == ("__debug__" : Str)) = false := by decide) (hcd : (x == ("__classdict__" : Str)) = false := by decide)
    (ha : ∀ v, assign (.Subscript (.Name x p1) idx pos') X.env v = (do
      let ov ← holding [v] (eval (.Name x p1) X.env)
      let iv ← holding [v, ov] (eval idx X.env)
      standAt pos'
      holding [v, ov, iv] (setItem ov iv v)
      release [v, ov, iv] []) := by intro _; rfl)
    (hs : swapsWithSole [.Subscript (.Name x p1) idx pos'] value pos.line X.env = pure false := by rfl) (hw2 : swappedStores [.Subscript (.Name x p1) idx pos'] value X.env = pure none := by rfl)
    (h1 : (assignEach [.Subscript (.Name x p1) idx pos'] X.env).map (·.2) = [assign (.Subscript (.Name x p1) idx pos') X.env] := by rfl) : S1 F X (.Assign [.Subscript (.Name x p1) idx pos'] value pos) ρ D := fun H0 H σ D' k l => by
  obtain ⟨q, vs, s1, s2, s3, s4, s5⟩ := k.list hw
  refine PS.c (ps_asg (cE.pe X value) (pg_sub (pe_var hi hv hd hcd) (cE.pe X idx) set_list ha) hs hw2 h1) (h.run k fun u H2 w2 e1 k1 r1 ⟨d, ew, h2⟩ => ?_)
  subst ew
  refine ⟨_, s1, h2.run k1 fun u3 H3 w3 e2 k2 r2 ⟨m, j, ew, hj, dn⟩ => ?_⟩
  subst ew; cases r2
  have s2' := (e1.trans e2).keep q _ s4 s2
  have s3' := s3.mono (e1.trans e2).tup
  obtain ⟨kn, kp⟩ := k2.wlist hw s1 (s3'.set (Rep.mono e2.tup r1) j)
  exact ⟨q, vs, m, j, rfl, rfl, s2', by rw [s3.length]; exact hj, l.nx _ _ _ kn ((Keep.ext (e1.trans e2)).trans kp) dn⟩
/-- a, b = e1, e2 -/
theorem s_par2 {i j : Nat} {x y : Str} {px py pt : Pos} {kt k2 pt2} (hc : X.calm = true) (hN : X.N.Nodup) (hi : X.N[i]? = some x) (hj : X.N[j]? = some y) (hij : i ≠ j) (hx : X.env.scope.names.lookup x = some .local) (hy : X.env.scope.names.lookup y = some .local)
    (h : EC F X a ρ fun w1 => w1.res = true ∧ EC F X b ρ fun w2 => w2.res = true ∧ D.nx ((ρ.set i (some w1)).set j (some w2)))
    (hw : swappedStores [.Tuple [.Name x px, .Name y py] kt pt] (.Tuple [a, b] k2 pt2) X.env = pure (some [x, y]) := by rfl)
    (hs : swapsWithSole [.Tuple [.Name x px, .Name y py] kt pt] (.Tuple [a, b] k2 pt2) pos.line X.env = pure false := by rfl)
    (hs1 : starEach [a, b] X.env = (false, eval a X.env) :: starEach [b] X.env := by rfl) (hs2 : starEach [b] X.env = (false, eval b X.env) :: starEach [] X.env := by rfl) :
    S1 F X (.Assign [.Tuple [.Name x px, .Name y py] kt pt] (.Tuple [a, b] k2 pt2) pos) ρ D := fun H0 H σ D' k l =>
  PS.c (ps_par hc hN hi hj hij hx hy (pa_cons (cE.pe X a) (pa_cons (cE.pe X b) pa_nil hs2) hs1) hw hs) (h.run k fun v1 H1 w1 e1 k1 r1 ⟨q1, h2⟩ => h2.run k1 fun v2 H2 w2 e2 k2 r2 ⟨q2, dn⟩ =>
    ⟨v1, v2, rfl, l.nx _ _ _ ((k.set e1 k1.inv r1 q1 i).set e2 k2.inv r2 q2 j) ((keep_set k e1 r1 q1 i).trans (keep_set (k.set e1 k1.inv r1 q1 i) e2 r2 q2 j)) dn⟩)
theorem s_par3 {i j m : Nat} {x y z : Str} {px py pz pt : Pos} {kt k2 pt2} (hc : X.calm = true) (hN : X.N.Nodup) (hi : X.N[i]? = some x) (hj : X.N[j]? = some y) (hm : X.N[m]? = some z) (hij : i ≠ j) (him : i ≠ m) (hjm : j ≠ m)
    (hx : X.env.scope.names.lookup x = some .local) (hy : X.env.scope.names.lookup y = some .local) (hz : X.env.scope.names.lookup z = some .local)
    (h : EC F X a ρ fun w1 => w1.res = true ∧ EC F X b ρ fun w2 => w2.res = true ∧ EC F X c ρ fun w3 => w3.res = true ∧ D.nx (((ρ.set i (some w1)).set j (some w2)).set m (some w3)))
    (hw : swappedStores [.Tuple [.Name x px, .Name y py, .Name z pz] kt pt] (.Tuple [a, b, c] k2 pt2) X.env = pure (some [x, y, z]) := by rfl)
    (hs : swapsWithSole [.Tuple [.Name x px, .Name y py, .Name z pz] kt pt] (.Tuple [a, b, c] k2 pt2) pos.line X.env = pure false := by rfl)
    (hs1 : starEach [a, b, c] X.env = (false, eval a X.env) :: starEach [b, c] X.env := by rfl) (hs2 : starEach [b, c] X.env = (false, eval b X.env) :: starEach [c] X.env := by rfl) (hs3 : starEach [c] X.env = (false, eval c X.env) :: starEach [] X.env := by rfl) :
    S1 F X (.Assign [.Tuple [.Name x px, .Name y py, .Name z pz] kt pt] (.Tuple [a, b, c] k2 pt2) pos) ρ D := fun H0 H σ D' k l =>
  PS.c (ps_par3 hc hN hi hj hm hij him hjm hx hy hz (pa_cons (cE.pe X a) (pa_cons (cE.pe X b) (pa_cons (cE.pe X c) pa_nil hs3) hs2) hs1) hw hs) (h.run k fun v1 H1 w1 e1 k1 r1 ⟨q1, h2⟩ => h2.run k1 fun v2 H2 w2 e2 k2 r2 ⟨q2, h3⟩ => h3.run k2 fun v3 H3 w3 e3 k3 r3 ⟨q3, dn⟩ =>
    ⟨v1, v2, v3, rfl, l.nx _ _ _ (((k.set e1 k1.inv r1 q1 i).set e2 k2.inv r2 q2 j).set e3 k3.inv r3 q3 m) (((keep_set k e1 r1 q1 i).trans (keep_set (k.set e1 k1.inv r1 q1 i) e2 r2 q2 j)).trans (keep_set ((k.set e1 k1.inv r1 q1 i).set e2 k2.inv r2 q2 j) e3 r3 q3 m)) dn⟩)
/-- while -/
theorem s_while {t : Expr} {body : List Stmt} (Wf : Nat → Env1 → Prop) (m0 : Nat) (h0 : Wf m0 ρ) (hp : PassesOwn (model X.prog X.w) X.A X.env X.xe)
    (hs : ∀ m ρ', Wf m ρ' → ET F X t ρ' fun b => (b = true → SS F X body ρ' { nx := fun ρ2 => ∃ m', m' < m ∧ Wf m' ρ2, ct := fun ρ2 => ∃ m', m' < m ∧ Wf m' ρ2, bk := D.nx, rt := D.rt }) ∧ (b = false → D.nx ρ')) : S1 F X (.While t body [] pos) ρ D := fun H0 H σ D' k l =>
  PS.c (ps_while hp (cT.pt X t) (cS.ps X body)) ⟨fun m σ' H' => ∃ ρ', Kn F H0 H' σ' ρ' ∧ Keep F H σ ρ H' σ' ρ' ∧ Wf m ρ', ⟨m0, ρ, k, .refl, h0⟩, fun m σ' H' ⟨ρ', k', kp, hw⟩ =>
    (hs m ρ' hw).run k' fun b H1 e1 k1 ⟨h1, h2⟩ => by
      cases b with
      | true =>
        show ∃ N : L2.St → Hp → Prop, _
        refine ⟨fun σ2 H2 => ∃ m', m' < m ∧ ∃ ρ2, Kn F H0 H2 σ2 ρ2 ∧ Keep F H σ ρ H2 σ2 ρ2 ∧ Wf m' ρ2, fun σ2 H2 h => h, ?_⟩
        have kp1 := kp.trans (Keep.ext (σ := σ') (ρ := ρ') e1)
        refine h1 rfl H0 H1 σ' _ k1 ⟨fun σ2 H2 ρ2 kn k2 ⟨m', hm, hw'⟩ => ⟨m', hm, ρ2, kn, kp1.trans k2, hw'⟩, fun σ2 H2 ρ2 kn k2 d => l.nx _ _ _ kn (kp1.trans k2) d, fun σ2 H2 ρ2 kn k2 ⟨m', hm, hw'⟩ => ⟨m', hm, ρ2, kn, kp1.trans k2, hw'⟩, l.rt⟩
      | false =>
        show D'.nx σ' H1
        exact l.nx _ _ _ k1 (kp.trans (.ext e1)) (h2 rfl)⟩
end

/-! ### targets -/
/-- a target's store of data: the slots idx -/
structure PatOk (F : Fr) (g : TG) (idx : List Nat) (B : Dat → Env1 → Env1 → Prop) : Prop where
  run : ∀ H0 H σ ρ d ρ' v, Kn F H0 H σ ρ → Rep H v d → B d ρ ρ' → ∀ Q : L2.St → Hp → Prop,
    (∀ σ', Kn F H0 H σ' ρ' → Keep F H σ ρ H σ' ρ' → σ'.length = σ.length → (∀ i, i ∉ idx → σ'[i]? = σ[i]?) → Q σ' H) → g v σ H Q
theorem pat_name {F : Fr} {i : Nat} : PatOk F (gName i) [i] (fun d ρ ρ' => ρ' = ρ.set i (some (.d d))) := ⟨fun H0 H σ ρ d ρ' v k r hb Q q => by
  subst hb
  refine q _ (k.set (.refl F H) k.inv (repD r) rfl i) (keep_set k (.refl F H) (repD r) rfl i) (by simp) fun j hj => ?_
  rw [List.getElem?_set_ne (fun z => hj (by simp [z]))]⟩
theorem pat_two {F : Fr} {K : PySem.W.Frag} {i j : Nat} : PatOk F (gTup K 2 (gCons (gName i) (gCons (gName j) gNil))) [i, j] (fun d ρ ρ' => ∃ x y, d = .tup [x, y] ∧ ρ' = (ρ.set i (some (.d x))).set j (some (.d y))) :=
  ⟨fun H0 H σ ρ d ρ' v k r hb Q q => by
    obtain ⟨x, y, rfl, rfl⟩ := hb
    cases r with
    | tup h1 h2 =>
      cases h2 with
      | cons r1 h2 =>
        cases h2 with
        | cons r2 h2 =>
          cases h2
          have k1 := k.set (.refl F H) k.inv (repD r1) rfl i
          have p1 := keep_set k (.refl F H) (repD r1) rfl i
          refine ⟨_, _, rfl, SqT.of h1, rfl, _, _, rfl, _, _, rfl, rfl, q _ (k1.set (.refl F H) k.inv (repD r2) rfl j) (p1.trans (keep_set k1 (.refl F H) (repD r2) rfl j)) (by simp) fun n hn => ?_⟩
          simp only [List.mem_cons, not_or] at hn
          rw [List.getElem?_set_ne (Ne.symm hn.2.1), List.getElem?_set_ne (Ne.symm hn.1)]⟩
theorem pat_three {F : Fr} {K : PySem.W.Frag} {i j m : Nat} : PatOk F (gTup K 3 (gCons (gName i) (gCons (gName j) (gCons (gName m) gNil)))) [i, j, m]
    (fun d ρ ρ' => ∃ x y z, d = .tup [x, y, z] ∧ ρ' = ((ρ.set i (some (.d x))).set j (some (.d y))).set m (some (.d z))) :=
  ⟨fun H0 H σ ρ d ρ' v k r hb Q q => by
    obtain ⟨x, y, z, rfl, rfl⟩ := hb
    cases r with
    | tup h1 h2 =>
      cases h2 with
      | cons r1 h2 =>
        cases h2 with
        | cons r2 h2 =>
          cases h2 with
          | cons r3 h2 =>
            cases h2
            have k1 := k.set (.refl F H) k.inv (repD r1) rfl i
            have p1 := keep_set k (.refl F H) (repD r1) rfl i
            have k2 := k1.set (.refl F H) k.inv (repD r2) rfl j
            have p2 := keep_set k1 (.refl F H) (repD r2) rfl j
            refine ⟨_, _, rfl, SqT.of h1, rfl, _, _, rfl, _, _, rfl, _, _, rfl, rfl, q _ (k2.set (.refl F H) k.inv (repD r3) rfl m) ((p1.trans p2).trans (keep_set k2 (.refl F H) (repD r3) rfl m)) (by simp) fun n hn => ?_⟩
            simp only [List.mem_cons, not_or] at hn
            rw [List.getElem?_set_ne (Ne.symm hn.2.2.1), List.getElem?_set_ne (Ne.symm hn.2.1), List.getElem?_set_ne (Ne.symm hn.1)]⟩
/-- n, (a, b, c) -/
theorem pat_enum {F : Fr} {K : PySem.W.Frag} {n i j m : Nat} : PatOk F (gTup K 2 (gCons (gName n) (gCons (gTup K 3 (gCons (gName i) (gCons (gName j) (gCons (gName m) gNil)))) gNil))) [n, i, j, m]
    (fun d ρ ρ' => ∃ u x y z, d = .tup [u, .tup [x, y, z]] ∧ ρ' = (((ρ.set n (some (.d u))).set i (some (.d x))).set j (some (.d y))).set m (some (.d z))) :=
  ⟨fun H0 H σ ρ d ρ' v k r hb Q q => by
    obtain ⟨u, x, y, z, rfl, rfl⟩ := hb
    cases r with
    | tup h1 h2 =>
      cases h2 with
      | cons r1 h2 =>
        cases h2 with
        | cons r2 h2 =>
          cases h2
          have k1 := k.set (.refl F H) k.inv (repD r1) rfl n
          have p1 := keep_set k (.refl F H) (repD r1) rfl n
          refine ⟨_, _, rfl, SqT.of h1, rfl, _, _, rfl, _, _, rfl, pat_three.run H0 H _ _ _ _ _ k1 r2 ⟨x, y, z, rfl, rfl⟩ _ fun σ' k2 p2 l2 h2 => ⟨rfl, q σ' k2 (p1.trans p2) (by simp [l2]) fun t ht => ?_⟩⟩
          simp only [List.mem_cons, not_or] at ht
          rw [h2 t (by simp [ht]), List.getElem?_set_ne (Ne.symm ht.1)]⟩
/-- assignment by a pattern -/
theorem s_pat {F : Fr} {X : Cx} {ρ : Env1} {D : DE} {tg e : Expr} {pos : Pos} {g : TG} {idx : List Nat} {B : Dat → Env1 → Env1 → Prop} (pk : PatOk F g idx B) (hg : PG X tg g) (h : EC F X e ρ fun w => ∃ d ρ', w = .d d ∧ B d ρ ρ' ∧ D.nx ρ')
    (hs : swapsWithSole [tg] e pos.line X.env = pure false := by rfl) (hw : swappedStores [tg] e X.env = pure none := by rfl) (h1 : (assignEach [tg] X.env).map (·.2) = [assign tg X.env] := by rfl) : S1 F X (.Assign [tg] e pos) ρ D := fun H0 H σ D' k l =>
  PS.c (ps_asg (cE.pe X e) hg hs hw h1) (h.run k fun v H1 w e1 k1 r1 ⟨d, ρ', ew, hb, dn⟩ => by
    subst ew
    exact pk.run H0 H1 σ ρ d ρ' v k1 r1 hb _ fun σ' k2 p2 _ _ => l.nx σ' H1 ρ' k2 ((Keep.ext e1).trans p2) dn)
end Md
end MdFPart
section MdGPart
set_option Elab.async false
set_option linter.all false
set_option maxRecDepth 100000
set_option maxHeartbeats 2000000
/-! What is walked; for; comprehensions. -/
namespace Md
open PySem L2
structure WalkD (F : Fr) (J : It) (ds : List Dat) (G : Hp → Prop) : Prop where
  goes : ∀ i H, i < ds.length → G H → J.go i H
  stops : ∀ H, G H → J.stop ds.length H
  yields : ∀ i H x H', i < ds.length → G H → F.I H → J.yld i H x H' → Ext F H H' ∧ F.I H' ∧ ∃ d, ds[i]? = some d ∧ Rep H' x d
def EI (F : Fr) (X : Cx) (tg iter : Expr) (ρ : Env1) (Φ : List Dat → Prop) : Prop := ∃ wi, PI X tg iter wi ∧ ∀ H0 H σ, Kn F H0 H σ ρ → ∀ R : It → Hp → Prop,
  (∀ J H1 ds G, Ext F H H1 → F.I H1 → Φ ds → WalkD F J ds G → G H1 → (∀ H2, TupK H1 H2 → (∀ a o, ¬ F.M a → H1 a = some o → Free σ ρ a → H2 a = some o) → G H2) → R J H1) → wi σ H R
section
variable {F : Fr} {X : Cx} {ρ ρ' : Env1} {H0 H H1 H2 : Hp} {σ σ' : L2.St} {tg a b c e : Expr} {es : List Expr} {pos p : Pos} {v : V} {w : W} {D : DE} {D' : Ends} {st : Stmt} {ss : List Stmt} {Φ : List Dat → Prop}
theorem EI.to {Ψ : List Dat → Prop} {iter : Expr} (h : EI F X tg iter ρ Φ) (k : ∀ ds, Φ ds → Ψ ds) : EI F X tg iter ρ Ψ := by
  obtain ⟨wi, hp, h⟩ := h
  exact ⟨wi, hp, fun H0 H σ kn R r => h H0 H σ kn R fun J H1 ds G e1 i1 p1 w1 g1 s1 => r J H1 ds G e1 i1 (k ds p1) w1 g1 s1⟩
theorem free_new {q : Addr} (k : Kn F H0 H σ ρ) (h : H q = none) : Free σ ρ q := fun i w hi ho hs => by
  obtain ⟨v, h1, h2⟩ := k.get i w hi
  obtain ⟨b, o, e1, e2, _⟩ := h2.addr (W.own_mu ho)
  rw [hs] at h1
  cases h1
  cases e1
  rw [h] at e2
  cases e2
theorem ei_tup {iter : Expr} (h : EC F X iter ρ fun w => ∃ ds, w = .d (.tup ds) ∧ Φ ds) : EI F X tg iter ρ Φ := ⟨_, pi_tup (cE.pe X iter), fun H0 H σ k R r => h.run k fun v H1 w e1 k1 r1 ⟨ds, ew, p⟩ => by
  subst ew
  have r1' : Rep H1 v (.tup ds) := r1
  cases r1' with
  | @tup q vs _ h1 h2 =>
    refine ⟨q, rfl, ⟨vs, SqT.of h1⟩, r _ H1 ds (fun H => H q = some (.tup vs) ∧ Reps H vs ds) e1 k1.inv p ⟨fun i H hi g => ?_, fun H g => ?_, fun i H x H' hi g inv y => ?_⟩ ⟨h1, h2⟩ fun H2 t f => ⟨t _ _ h1, h2.mono t⟩⟩
    · rw [← g.2.length] at hi
      exact ⟨vs, vs[i], SqT.of g.1, by simp [hi]⟩
    · exact ⟨vs, SqT.of g.1, by rw [g.2.length]; exact Nat.le_refl _⟩
    · obtain ⟨e, y⟩ := y
      subst e
      obtain ⟨d, hd, rd⟩ := g.2.getV (y vs (SqT.of g.1))
      exact ⟨.refl F H', inv, d, hd, rd⟩⟩
theorem walkL {q : Addr} {vs : List V} {ds : List Dat} : WalkD F (Itl X.K q) ds (fun H => H q = some (.lst vs) ∧ Reps H vs ds) := ⟨fun i H hi g => by
    rw [← g.2.length] at hi
    exact ⟨vs, vs[i], SqL.of g.1, by simp [hi]⟩, fun H g => ⟨vs, SqL.of g.1, by rw [g.2.length]; exact Nat.le_refl _⟩, fun i H x H' hi g inv y => by
    obtain ⟨e, y⟩ := y
    subst e
    obtain ⟨d, hd, rd⟩ := g.2.getV (y vs (SqL.of g.1))
    exact ⟨.refl F H', inv, d, hd, rd⟩⟩
/-- a new list -/
theorem ei_new {iter : Expr} (h : EC F X iter ρ fun w => ∃ ds, w = .lst true ds ∧ Φ ds) : EI F X tg iter ρ Φ := ⟨_, pi_list (cE.pe X iter), fun H0 H σ k R r => h.run k fun v H1 w e1 k1 r1 ⟨ds, ew, p⟩ => by
  subst ew
  obtain ⟨q, vs, rfl, h1, h2, h3, h4⟩ := r1
  have fr := free_new k (h4 rfl)
  exact ⟨q, rfl, ⟨vs, SqL.of h1⟩, r _ H1 ds _ e1 k1.inv p walkL ⟨h1, h2⟩ fun H2 t f => ⟨f q _ h3 h1 fr, h2.mono t⟩⟩⟩
/-- a name's list that is not written meanwhile -/
theorem ei_var {i : Nat} {x : Str} {ds : List Dat} (hi : X.N[i]? = some x) (hv : Vis X.env.scope x) (hw : ρ[i]? = some (some (.lst false ds))) (h : Φ ds)
    (hd : (x == ("__debug__" : Str)) = false := by decide) (hcd : (x == ("__classdict__" : Str)) = false := by decide) : EI F X tg (.Name x pos) ρ Φ := ⟨_, pi_list (pe_var hi hv hd hcd), fun H0 H σ k R r => by
  obtain ⟨q, vs, h1, h2, h3, h4, h5⟩ := k.list hw
  have fr : Free σ ρ q := fun j w hj ho hs => by
    by_cases hji : j = i
    · subst hji
      rw [hw] at hj
      cases hj
      cases ho
    · exact k.sep j i w _ q hji hj hw ho rfl hs h1
  exact ⟨_, h1, q, rfl, ⟨vs, SqL.of h2⟩, r _ H ds _ (.refl F H) k.inv h walkL ⟨h2, h3⟩ fun H2 t f => ⟨f q _ h4 h2 fr, h3.mono t⟩⟩⟩
def rangeD (lo : Int) (n : Nat) : List Dat := (List.range n).map fun (i : Nat) => Dat.int (lo + (i : Int))
theorem walkR {lo : Int} {n : Nat} : WalkD F (Itr lo n) (rangeD lo n) (fun _ => True) := by
  have hl : (rangeD lo n).length = n := by unfold rangeD; simp
  refine ⟨fun i H hi _ => by rw [hl] at hi; exact hi, fun H _ => by rw [hl]; exact Nat.le_refl n, fun i H x H' hi _ inv y => ?_⟩
  obtain ⟨e, y⟩ := y
  subst e y
  rw [hl] at hi
  exact ⟨.refl F H', inv, _, by unfold rangeD; rw [List.getElem?_map, List.getElem?_range hi]; rfl, .int _⟩
theorem ei_range1 {n : Expr} (hg : Gl X "range") (hm : X.mg "range" = none) (h : EC F X n ρ fun w => ∃ m : Int, w = .d (.int m) ∧ -1000000 ≤ m ∧ m ≤ 1000000 ∧ Φ (rangeD 0 m.toNat)) (hs : starEach [n] X.env = (false, eval n X.env) :: starEach [] X.env := by rfl) : EI F X tg (.Call (.Name "range" p) [n] [] pos) ρ Φ :=
  ⟨_, pi_range1 hg hm (pa_cons (cE.pe X n) pa_nil hs) (hs := hs), fun H0 H σ k R r => h.run k fun v H1 w e1 k1 r1 ⟨m, ew, h1, h2, p1⟩ => by
    subst ew; cases r1
    exact ⟨m, rfl, by omega, by omega, r _ H1 _ _ e1 k1.inv p1 walkR trivial fun _ _ _ => trivial⟩⟩
theorem ei_range2 {m n : Expr} (hg : Gl X "range") (hm : X.mg "range" = none) (h : EC F X m ρ fun w => ∃ l : Int, w = .d (.int l) ∧ -1000000 ≤ l ∧ l ≤ 1000000 ∧ EC F X n ρ fun w => ∃ u : Int, w = .d (.int u) ∧ -1000000 ≤ u ∧ u ≤ 1000000 ∧ Φ (rangeD l (u - l).toNat))
    (hs1 : starEach [m, n] X.env = (false, eval m X.env) :: starEach [n] X.env := by rfl) (hs : starEach [n] X.env = (false, eval n X.env) :: starEach [] X.env := by rfl) : EI F X tg (.Call (.Name "range" p) [m, n] [] pos) ρ Φ :=
  ⟨_, pi_range2 hg hm (pa_cons (cE.pe X m) (pa_cons (cE.pe X n) pa_nil hs) hs1) (hs := by rw [hs1, hs]; rfl) (hs2 := hs), fun H0 H σ k R r => h.run k fun v H1 w e1 k1 r1 ⟨l, ew, h1, h2, p1⟩ => p1.run k1 fun v2 H2 w2 e2 k2 r2 ⟨u, ew2, h3, h4, p2⟩ => by
    subst ew; cases r1; subst ew2; cases r2
    exact ⟨l, u, rfl, ⟨by omega, by omega, by omega, by omega⟩, r _ H2 _ _ (e1.trans e2) k2.inv p2 walkR trivial fun _ _ _ => trivial⟩⟩

/-! ### for -/
/-- Pv by the turn and what is known; ds is walked -/
theorem s_for {iter : Expr} {body : List Stmt} {g : TG} {idx : List Nat} {B : Dat → Env1 → Env1 → Prop} (pk : PatOk F g idx B) (hc : X.calm = true) (hg : PG X tg g) (hp : PassesOwn (model X.prog X.w) X.A X.env X.xe)
    (h : EI F X tg iter ρ fun ds => ∃ Pv : Nat → Env1 → Prop, Pv 0 ρ ∧ (∀ i d ρ', ds[i]? = some d → Pv i ρ' → ∃ ρ2, B d ρ' ρ2 ∧ SS F X body ρ2 { nx := Pv (i + 1), ct := Pv (i + 1), bk := D.nx, rt := D.rt }) ∧ ∀ ρ', Pv ds.length ρ' → D.nx ρ')
    (hs : ∀ x, foldedSetIterable iter X.env x = pure x := by intro _; rfl) : S1 F X (.For tg iter body [] pos) ρ D := fun H0 H σ D' k l => by
  obtain ⟨wi, hi, h⟩ := h
  refine PS.c (ps_for hp hc hi hg (cS.ps X body) hs) (h H0 H σ k _ fun J H1 ds G e1 i1 ⟨Pv, p0, ps, pd⟩ wk g1 stab => ?_)
  have k1 := k.step e1 i1
  have kp1 : Keep F H σ ρ H1 σ ρ := .ext e1
  refine ⟨fun i m σ' H' => m = ds.length - i ∧ i ≤ ds.length ∧ ∃ ρ', Kn F H0 H' σ' ρ' ∧ Keep F H1 σ ρ H' σ' ρ' ∧ Pv i ρ', ⟨ds.length, by simp, Nat.zero_le _, ρ, k1, .refl, p0⟩, ?_⟩
  rintro i m σ' H' ⟨rfl, hi', ρ', k', kp, pv⟩
  have g' : G H' := stab H' kp.tup fun a o n h f => (kp.free a o n h f).1
  by_cases hlt : i < ds.length
  · refine .inr ⟨wk.goes i H' hlt g', fun σ2 H2 => ∃ ρ2, Kn F H0 H2 σ2 ρ2 ∧ Keep F H1 σ ρ H2 σ2 ρ2 ∧ Pv (i + 1) ρ2, fun σ2 H2 h2 => ⟨ds.length - (i + 1), by omega, rfl, hlt, h2⟩, fun x H2 y => ?_⟩
    obtain ⟨e2, i2, d, hd, rd⟩ := wk.yields i H' x H2 hlt g' k'.inv y
    obtain ⟨ρ2, hb, hss⟩ := ps i d ρ' hd pv
    have k2 := k'.step e2 i2
    refine pk.run H0 H2 σ' ρ' d ρ2 x k2 rd hb _ fun σ3 k3 kp3 _ _ => ?_
    have kp4 := (kp.trans (Keep.ext e2)).trans kp3
    exact hss H0 H2 σ3 _ k3 ⟨fun σ4 H4 ρ4 kn kp5 d4 => ⟨ρ4, kn, kp4.trans kp5, d4⟩, fun σ4 H4 ρ4 kn kp5 d4 => l.nx _ _ _ kn (kp1.trans (kp4.trans kp5)) d4, fun σ4 H4 ρ4 kn kp5 d4 => ⟨ρ4, kn, kp4.trans kp5, d4⟩, l.rt⟩
  · have e : i = ds.length := by omega
    subst e
    exact .inl ⟨wk.stops H' g', l.nx _ _ _ k' (kp1.trans kp) (pd ρ' pv)⟩
end

/-! ### comprehensions -/
inductive Outs {α : Type} (T : α → Option Dat → Prop) : List α → List Dat → Prop
  | nil : Outs T [] []
  | yes {x : α} {y : Dat} {xs : List α} {ys : List Dat} (h : T x (some y)) (t : Outs T xs ys) : Outs T (x :: xs) (y :: ys)
  | no {x : α} {xs : List α} {ys : List Dat} (h : T x none) (t : Outs T xs ys) : Outs T (x :: xs) ys
theorem Outs.length {α : Type} {T : α → Option Dat → Prop} {xs : List α} {ys : List Dat} (o : Outs T xs ys) : ys.length ≤ xs.length := by
  induction o with
  | nil => exact Nat.le_refl _
  | yes h t ih => simp; exact ih
  | no h t ih => simp; omega
theorem Outs.append {α : Type} {T : α → Option Dat → Prop} {xs xs' : List α} {ys ys' : List Dat} (o : Outs T xs ys) (o' : Outs T xs' ys') : Outs T (xs ++ xs') (ys ++ ys') := by
  induction o with
  | nil => exact o'
  | yes h t ih => exact .yes h ih
  | no h t ih => exact .no h ih
theorem outs_map {α : Type} {f : α → Dat} {xs : List α} {ys : List Dat} (o : Outs (fun x r => r = some (f x)) xs ys) : ys = xs.map f := by
  induction o with
  | nil => rfl
  | yes h t ih => cases h; rw [List.map_cons, ih]
  | no h t ih => cases h
theorem outs_filter {α : Type} {p : α → Bool} {f : α → Dat} {xs : List α} {ys : List Dat} (o : Outs (fun x r => r = if p x then some (f x) else none) xs ys) : ys = (xs.filter p).map f := by
  induction o with
  | nil => rfl
  | @yes x y xs ys h t ih =>
    by_cases hp : p x = true
    · rw [if_pos hp] at h; cases h; rw [List.filter_cons_of_pos hp, List.map_cons, ih]
    · rw [if_neg hp] at h; cases h
  | @no x xs ys h t ih =>
    by_cases hp : p x = true
    · rw [if_pos hp] at h; cases h
    · rw [List.filter_cons_of_neg hp, ih]
theorem wipe_at (σ : L2.St) (i : Nat) : ∀ vs : List Nat, (wipe σ vs)[i]? = if i ∈ vs then (if i < σ.length then some none else none) else σ[i]?
  | [] => by simp [wipe]
  | v :: vs => by
    unfold wipe
    by_cases h : i = v
    · subst h
      by_cases hl : i < σ.length
      · rw [List.getElem?_set_self (by rw [wipe_length]; exact hl)]; simp [hl]
      · rw [List.getElem?_eq_none (by rw [List.length_set, wipe_length]; omega)]; simp [hl]
    · rw [List.getElem?_set_ne (Ne.symm h), wipe_at σ i vs]
      simp [h]
theorem wipe_same {σ σ2 : L2.St} {vs idx : List Nat} (hl : σ2.length = (wipe σ vs).length) (h : ∀ i, i ∉ idx → σ2[i]? = (wipe σ vs)[i]?) (hs : ∀ i, i ∈ idx → i ∈ vs) : wipe σ2 vs = wipe σ vs := by
  refine List.ext_getElem? fun i => ?_
  rw [wipe_at, wipe_at]
  rw [wipe_length] at hl
  by_cases hi : i ∈ vs
  · simp [hi, hl]
  · rw [if_neg hi, if_neg hi, h i (fun z => hi (hs i z)), wipe_at, if_neg hi]
/-- the tests of a comprehension -/
def ETs (F : Fr) (X : Cx) (ifs : List Expr) (ρ : Env1) (Φ : Bool → Prop) : Prop := ∃ tt, PTs X ifs tt ∧ ∀ H0 H σ, Kn F H0 H σ ρ → ∀ Q : Bool → Hp → Prop, (∀ b H2, Ext F H H2 → F.I H2 → Φ b → Q b H2) → tt σ H Q
def cTs (X : Cx) (ifs : List Expr) : TT := fun σ H Q => ∀ pins s, Inv X pins σ H s →
    wpAny (model X.prog X.w) X.A (forIn ifs true fun c r => if r = true then do let ok ← isTrue c X.env (eval c X.env); pure (ForInStep.yield ok) else pure (ForInStep.yield r)) (TP X pins σ Q) X.xe s
theorem cTs.pt (X : Cx) (ifs : List Expr) : PTs X ifs (cTs X ifs) := ⟨fun pins s σ H Q I h => h pins s I⟩
theorem PTs.c {X : Cx} {ifs : List Expr} {t : TT} (h : PTs X ifs t) {σ : L2.St} {H : Hp} {Q : Bool → Hp → Prop} (q : t σ H Q) : cTs X ifs σ H Q := fun pins s I => h.run pins s σ H Q I q
theorem ets_nil {F : Fr} {X : Cx} {ρ : Env1} {Φ : Bool → Prop} (h : Φ true) : ETs F X [] ρ Φ := ⟨_, pts_nil, fun H0 H σ k Q q => q true H (.refl F H) k.inv h⟩
theorem ets_one {F : Fr} {X : Cx} {ρ : Env1} {c : Expr} {Φ : Bool → Prop} (h : ET F X c ρ Φ) : ETs F X [c] ρ Φ := ⟨_, pts_one (cT.pt X c), fun H0 H σ k Q q => h H0 H σ k Q q⟩
/-- the comprehension's block: any -/
abbrev Blk (X : Cx) (scope : Scope) (P : Cx → Prop) : Prop := ∀ (s : Shared) (H : Hp) (C : Addr) (cl : List (Str × Addr)) (fp : List Addr), P (X.blk s H scope (compEnvC scope cl C X.env) fp)
section
variable {F : Fr} {X : Cx} {ρ ρ' : Env1} {H0 H H1 H2 : Hp} {σ σ' : L2.St} {tg elt iter : Expr} {ifs : List Expr} {pos p : Pos} {v : V} {w : W} {scope : Scope} {own : List (Str × Nat)}
/-- all blocks' readings at once -/
theorem lcTE {g : TG} {idx : List Nat} {B : Dat → Env1 → Env1 → Prop} {α : Type} (xs : List α) (enc : α → Dat) (T : α → Option Dat → Prop) {Φ : W → Prop} {wi : TI} (pk : PatOk F g idx B) (hidx : ∀ i, i ∈ idx → i ∈ own.map (·.2)) (hl : xs.length ≤ 100000)
    (hi : ∀ H0 H σ, Kn F H0 H σ ρ → ∀ R : It → Hp → Prop, (∀ J H1 ds G, Ext F H H1 → F.I H1 → ds = xs.map enc → WalkD F J ds G → G H1 → (∀ H2, TupK H1 H2 → (∀ a o, ¬ F.M a → H1 a = some o → Free σ ρ a → H2 a = some o) → G H2) → R J H1) → wi σ H R)
    (ht : ∀ x, x ∈ xs → ∃ ρ2, B (enc x) (wipeR ρ (own.map (·.2))) ρ2 ∧ Blk X scope fun Y => ETs F Y ifs ρ2 fun b => (b = true → Blk X scope fun Z => EC F Z elt ρ2 fun w => ∃ y, w = .d y ∧ T x (some y)) ∧ (b = false → T x none))
    (hd : ∀ out, Outs T xs out → Φ (.lst true out)) (k : Kn F H0 H σ ρ) {Q : VK} (q : ∀ v H2 w, Ext F H H2 → F.I H2 → RepW F H H2 v w → Φ w → Q v H2) :
    tLc wi g (fun σ H Q => Blk X scope fun Y => cTs Y ifs σ H Q) (fun σ H Q => Blk X scope fun Y => cE Y elt σ H Q) (own.map (·.2)) σ H Q := by
  refine hi H0 H σ k _ fun J H1 ds G e1 i1 hds wk g1 stab D hD => ?_
  have lds : ds.length = xs.length := by rw [hds, List.length_map]
  have k1 := k.step e1 i1
  have nm : ¬ F.M D := F.fresh i1 hD
  -- by the turn: what is made so far
  refine ⟨fun i m H' => m = ds.length - i ∧ i ≤ ds.length ∧ Ext F H1 H' ∧ F.I H' ∧ ∃ acc out, H' D = some (.lst acc) ∧ Reps H' acc out ∧ Outs T (xs.take i) out,
    ⟨ds.length, by simp, Nat.zero_le _, .new hD, inv_new i1 hD, [], [], upd_same, .nil, by rw [List.take_zero]; exact .nil⟩, ?_⟩
  rintro i m H' ⟨rfl, hi', ex, inv, acc, out, hacc, racc, ho⟩
  have g' : G H' := stab H' ex.tup fun a o n h f => ex.keep a o n h
  by_cases hlt : i < ds.length
  · refine .inr ⟨wk.goes i H' hlt g', fun H2 => i + 1 ≤ ds.length ∧ Ext F H1 H2 ∧ F.I H2 ∧ ∃ acc out, H2 D = some (.lst acc) ∧ Reps H2 acc out ∧ Outs T (xs.take (i + 1)) out, fun H2 h2 => ⟨ds.length - (i + 1), by omega, rfl, h2⟩, fun x H2 y => ?_⟩
    obtain ⟨e2, i2, d, hd', rd⟩ := wk.yields i H' x H2 hlt g' inv y
    have hix : i < xs.length := by rw [← lds]; exact hlt
    have hx : xs[i]? = some xs[i] := List.getElem?_eq_getElem hix
    have ed : d = enc xs[i] := by
      rw [hds, List.getElem?_map, hx] at hd'
      exact (Option.some.inj hd').symm
    subst ed
    have htake : xs.take (i + 1) = xs.take i ++ [xs[i]] := by rw [List.take_succ, hx]; rfl
    obtain ⟨ρ2, hb, hbl⟩ := ht xs[i] (List.getElem_mem hix)
    have ex2 := ex.trans e2
    have kw := (k1.step ex2 i2).wipe (own.map (·.2))
    refine pk.run H0 H2 _ _ _ ρ2 x kw rd hb _ fun σ3 k3 _ hl3 h3 => ⟨wipe_same hl3 h3 hidx, ?_⟩
    have accD : H2 D = some (.lst acc) := e2.keep D _ nm hacc
    have hlen : acc.length < sizeLine := by
      rw [racc.length]
      refine Nat.lt_of_le_of_lt ho.length ?_
      rw [List.length_take]
      refine Nat.lt_of_lt_of_le (m := 100001) (by omega) (by decide)
    intro s0 h0 C cl fp
    obtain ⟨tt, hpt, hev⟩ := hbl s0 h0 C cl fp
    refine PTs.c hpt (hev H0 H2 σ3 k3 _ fun bb H3 e3 i3 ⟨hy, hn⟩ => ?_)
    cases bb with
    | true =>
      rw [if_pos rfl]
      intro s0 h0 C cl fp
      refine hy rfl s0 h0 C cl fp H0 H3 σ3 (k3.step e3 i3) _ fun v4 H4 w4 e4 i4 r4 ⟨y4, ew, hT⟩ => ?_
      subst ew
      have a4 : H4 D = some (.lst acc) := e4.keep D _ nm (e3.keep D _ nm accD)
      have tk : TupK H4 (upd H4 D (.lst (acc ++ [v4]))) := tupK_upd fun xs z => by rw [a4] at z; cases z
      refine ⟨acc, a4, hlen, hlt, ?_, ?_, acc ++ [v4], out ++ [y4], upd_same, ((racc.mono ((e2.trans e3).trans e4).tup).append (.one r4)).mono tk, ?_⟩
      · have ex4 := (ex2.trans e3).trans e4
        refine ⟨fun a o n h => ?_, ex4.tup.trans tk⟩
        rw [upd_ne (ne_of_none h hD)]
        exact ex4.keep a o n h
      · refine F.mono _ _ (fun a o n h => ?_) i4
        rw [upd_ne (fun z => nm (by rw [← z]; exact n))]
        exact h
      · rw [htake]
        exact ho.append (.yes hT .nil)
    | false =>
      refine ⟨hlt, ex2.trans e3, i3, acc, out, e3.keep D _ nm accD, racc.mono (e2.trans e3).tup, ?_⟩
      rw [htake]
      have := ho.append (Outs.no (T := T) (x := xs[i]) (hn rfl) .nil)
      rw [List.append_nil] at this
      exact this
  · have e : i = ds.length := by omega
    subst e
    rw [lds, List.take_length] at ho
    refine .inl ⟨wk.stops H' g', q _ H' _ (e1.trans ex) inv (RepW.back ?_ e1) (hd out ho)⟩
    exact ⟨D, acc, rfl, hacc, racc, nm, fun _ => hD⟩
theorem ec_lc {g : TG} {idx : List Nat} {B : Dat → Env1 → Env1 → Prop} {α : Type} (xs : List α) (enc : α → Dat) (T : α → Option Dat → Prop) {Φ : W → Prop} (pk : PatOk F g idx B) (hc : X.calm = true) (hN : X.N.Nodup) (ok : BlkOk X.N X.env.scope scope own)
    (hidx : ∀ i, i ∈ idx → i ∈ own.map (·.2)) (hl : xs.length ≤ 100000) (hg : Blk X scope fun Y => PG Y tg g) (hi : EI F X tg iter ρ fun ds => ds = xs.map enc)
    (ht : ∀ x, x ∈ xs → ∃ ρ2, B (enc x) (wipeR ρ (own.map (·.2))) ρ2 ∧ Blk X scope fun Y => ETs F Y ifs ρ2 fun b => (b = true → Blk X scope fun Z => EC F Z elt ρ2 fun w => ∃ y, w = .d y ∧ T x (some y)) ∧ (b = false → T x none))
    (hd : ∀ out, Outs T xs out → Φ (.lst true out)) (hs : ∀ x, foldedSetIterable iter X.env x = pure x := by intro _; rfl) : EC F X (.ListComp elt [⟨tg, iter, ifs, 0⟩] scope pos) ρ Φ := fun H0 H σ k Q q => by
  obtain ⟨wi, hpi, hi⟩ := hi
  refine PE.c (pe_lc (tt := fun σ H Q => Blk X scope fun Y => cTs Y ifs σ H Q) (te := fun σ H Q => Blk X scope fun Y => cE Y elt σ H Q) hc hN hpi ok hg (fun s H C cl fp => ⟨fun pins s1 σ1 H1 Q1 I h => (cTs.pt _ ifs).run pins s1 σ1 H1 Q1 I (h s H C cl fp)⟩) (fun s H C cl fp => ⟨fun pins s1 σ1 H1 Q1 I h => (cE.pe _ elt).run pins s1 σ1 H1 Q1 I (h s H C cl fp)⟩) hs) ?_
  exact lcTE xs enc T pk hidx hl hi ht hd k q
/-- name = [..] -/
theorem s_lc {D : DE} {i : Nat} {y : Str} {py spos : Pos} {g : TG} {idx : List Nat} {B : Dat → Env1 → Env1 → Prop} {α : Type} (xs : List α) (enc : α → Dat) (T : α → Option Dat → Prop) (pk : PatOk F g idx B) (hc : X.calm = true) (hN : X.N.Nodup) (hy : X.N[i]? = some y) (hyl : X.env.scope.names.lookup y = some .local)
    (hsw : swapsWith (.ListComp elt [⟨tg, iter, ifs, 0⟩] scope pos) (some (.Name y py)) spos.line X.env = pure true) (ok : BlkOk X.N X.env.scope scope own)
    (hidx : ∀ i, i ∈ idx → i ∈ own.map (·.2)) (hl : xs.length ≤ 100000) (hg : Blk X scope fun Y => PG Y tg g) (hi : EI F X tg iter ρ fun ds => ds = xs.map enc)
    (ht : ∀ x, x ∈ xs → ∃ ρ2, B (enc x) (wipeR ρ (own.map (·.2))) ρ2 ∧ Blk X scope fun Y => ETs F Y ifs ρ2 fun b => (b = true → Blk X scope fun Z => EC F Z elt ρ2 fun w => ∃ y, w = .d y ∧ T x (some y)) ∧ (b = false → T x none))
    (hd : ∀ out, Outs T xs out → D.nx (ρ.set i (some (.lst true out)))) (hs : ∀ x, foldedSetIterable iter X.env x = pure x := by intro _; rfl) : S1 F X (.Assign [.Name y py] (.ListComp elt [⟨tg, iter, ifs, 0⟩] scope pos) spos) ρ D := fun H0 H σ D' k l => by
  obtain ⟨wi, hpi, hi⟩ := hi
  refine PS.c (ps_setLc (tt := fun σ H Q => Blk X scope fun Y => cTs Y ifs σ H Q) (te := fun σ H Q => Blk X scope fun Y => cE Y elt σ H Q) hc hN hy hyl hsw hpi ok hg (fun s H C cl fp => ⟨fun pins s1 σ1 H1 Q1 I h => (cTs.pt _ ifs).run pins s1 σ1 H1 Q1 I (h s H C cl fp)⟩) (fun s H C cl fp => ⟨fun pins s1 σ1 H1 Q1 I h => (cE.pe _ elt).run pins s1 σ1 H1 Q1 I (h s H C cl fp)⟩) hs) ?_
  refine lcTE (Φ := fun w => w.res = true ∧ D.nx (ρ.set i (some w))) xs enc T pk hidx hl hi ht (fun out ho => ⟨rfl, hd out ho⟩) k fun v H2 w e1 i1 r1 ⟨hw, d⟩ => ?_
  exact l.nx _ _ _ (k.set e1 i1 r1 hw i) (keep_set k e1 r1 hw i) d
end
end Md
end MdGPart
section MdHPart
set_option Elab.async false
set_option linter.all false
set_option maxRecDepth 100000
set_option maxHeartbeats 2000000
/-! A def's promise by its body. -/
namespace Md
open PySem L2
def startR (N : List Str) (ws : List W) : Env1 := ws.map some ++ List.replicate (N.length - ws.length) none
section
variable {F : Fr} {X : Cx} {ρ : Env1} {H0 H : Hp} {σ : L2.St} {v : V} {w : W}
theorem RepWs.getW : ∀ {vs : List V} {ws : List W} {i : Nat} {w : W}, RepWs F H0 H vs ws → ws[i]? = some w → ∃ v, vs[i]? = some v ∧ RepW F H0 H v w
  | _, _, _, _, .nil, e => by simp at e
  | _, _, 0, _, .cons h _, e => by simp at e; subst e; exact ⟨_, rfl, h⟩
  | _, _, i + 1, _, .cons _ t, e => by
    obtain ⟨v, h1, h2⟩ := RepWs.getW (i := i) t (by simpa using e)
    exact ⟨v, by simpa using h1, h2⟩
theorem RepW.noOwn (r : RepW F H H v w) : w.own = false := by
  cases w with
  | d x => rfl
  | lst own ds =>
    obtain ⟨a, vs, h1, h2, h3, h4, h5⟩ := r
    cases own with
    | false => rfl
    | true => rw [h5 rfl] at h2; cases h2
  | dic own kd =>
    obtain ⟨a, vs, h1, h2, h3, h4, h5⟩ := r
    cases own with
    | false => rfl
    | true => rw [h5 rfl] at h2; cases h2
  | deck => rfl
theorem kn_start {N : List Str} {vs : List V} {ws : List W} (r : RepWs F H H vs ws) (i : F.I H) (hl : ws.length ≤ N.length) : Kn F H H (L2.start N vs) (startR N ws) := by
  have hlen := r.length
  have pick : ∀ (j : Nat) (u : W), (startR N ws)[j]? = some (some u) → j < ws.length ∧ ws[j]? = some u := fun j u h => by
    unfold startR at h
    by_cases hj : j < ws.length
    · rw [List.getElem?_append_left (by simpa using hj), List.getElem?_map] at h
      refine ⟨hj, ?_⟩
      cases e : ws[j]? with
      | none => rw [e] at h; cases h
      | some z => rw [e] at h; exact Option.some.inj h
    · rw [List.getElem?_append_right (by simpa using hj)] at h
      rw [List.getElem?_replicate] at h
      split at h
      · cases h
      · cases h
  refine ⟨.refl F H, i, by unfold L2.start startR; simp [hlen], fun j u h => ?_, fun a b u u' x ne h1 h2 ho => ?_⟩
  · obtain ⟨hj, hu⟩ := pick j u h
    obtain ⟨v, h1, h2⟩ := r.getW hu
    refine ⟨v, ?_, h2⟩
    unfold L2.start
    rw [List.getElem?_append_left (by rw [List.length_map, hlen]; exact hj), List.getElem?_map, h1]
    rfl
  · obtain ⟨hj, hu⟩ := pick a u h1
    obtain ⟨v, _, h2⟩ := r.getW hu
    rw [h2.noOwn] at ho
    cases ho
end
section
variable {P : Program} {w : World} {K : PySem.W.Frag} {mg : Str → Option Value} {base : Heap}
/-- a body's context -/
abbrev bx (P : Program) (w : World) (K : PySem.W.Frag) (mg : Str → Option Value) (base : Heap) (N : List Str) (qual : Str) (st : Stmt) (f : Addr) (cdv : Value) (A : Around) (outer : List Env) (s : Shared) (H : Hp) (E : XK) : Cx :=
  (cxOf CX0 P w K mg base N qual (defScope st) f cdv A outer s H E).nox
theorem fnD {x qual : Str} {st : Stmt} {f : Addr} {fd : FuncData} {N ps : List Str} {k : Nat} {C : Fr → Prop} {S : Spec} (F : Fun K x qual st f fd) (Sc : FnScope N ps (defScope st)) (hps : ps.length ≤ N.length) (hlen : ∀ ws Φ, S ws Φ → ws.length = ps.length)
    (body : ∀ (cdv : Value) (A : Around) (outer : List Env) (s : Shared) (H : Hp) (E : XK) (G : Fr) (ws : List W) (Φ : W → Prop), C G → Room k (bx P w K mg base N qual st f cdv A outer s H E).A → S ws Φ →
      SS G (bx P w K mg base N qual st f cdv A outer s H E) (defBody st) (startR N ws) { nx := fun _ => Φ (.d .non), rt := Φ }) : FnOk P w K mg base CX0 (k + 1) f fd ps (spD C S) := by
  refine F.ok Sc (fun vs H Q E h => ?_) (fun cdv A outer s H vs Q E hr h => ?_)
  · obtain ⟨G, ws, Φ, hC, hI, r, hS, _⟩ := h
    rw [r.length]
    exact hlen ws Φ hS
  · obtain ⟨G, ws, Φ, hC, hI, r, hS, q⟩ := h
    refine ⟨_, cS.ps _ _, body cdv A outer s H E G ws Φ hC hr hS H H _ _ (kn_start r hI (by rw [hlen ws Φ hS]; exact hps)) ⟨fun σ' H' ρ' kn kp d => ?_, fun σ' H' ρ' kn kp d => d.elim, fun σ' H' ρ' kn kp d => d.elim, fun v H' w e i r d => q v H' w e i r d⟩⟩
    exact q .non H' _ kn.ext kn.inv (repD .non) d
theorem HasFn.mk {x qual : Str} {st : Stmt} {f : Addr} {fd : FuncData} {ps : List Str} {k : Nat} {sp : Sp} (G : FnOk P w K mg base CX0 k f fd ps sp) (F : Fun K x qual st f fd) (hm : mg x = some (.ref f)) (hb : Binds K fd ps []) : HasFn P w K mg base x k sp :=
  ⟨f, fd, ps, G, hm, F.kp, hb⟩
theorem HasFn.mono {x : Str} {j k : Nat} {sp : Sp} (h : HasFn P w K mg base x j sp) (hk : j ≤ k) : HasFn P w K mg base x k sp := by
  obtain ⟨f, fd, ps, G, a, b, c⟩ := h
  exact ⟨f, fd, ps, G.mono hk, a, b, c⟩
end
/-- the built-ins' names are not the program's -/
structure Bt (mg : Str → Option Value) : Prop where
  isinstance : mg "isinstance" = none
  int : mg "int" = none
  bool : mg "bool" = none
  tuple : mg "tuple" = none
  str : mg "str" = none
  list : mg "list" = none
  dict : mg "dict" = none
  set : mg "set" = none
  len : mg "len" = none
  all : mg "all" = none
  any : mg "any" = none
  sorted : mg "sorted" = none
  zip : mg "zip" = none
  enumerate : mg "enumerate" = none
  range : mg "range" = none
  min : mg "min" = none
  max : mg "max" = none
  abs : mg "abs" = none
  repr : mg "repr" = none
  kinds : ∃ t, mg "KINDS" = some (.int 3 t)
end Md
namespace Md
open PySem L2
section
variable {F : Fr} {X : Cx} {ρ : Env1}
theorem vd {i : Nat} {x : Str} {pos : Pos} {y : Dat} (hi : X.N[i]? = some x) (hw : ρ[i]? = some (some (.d y))) (hv : Vis X.env.scope x := by first | exact .inl rfl | exact .inr (.inl rfl) | exact .inr (.inr rfl)) (hd : (x == ("__debug__" : Str)) = false := by decide) (hcd : (x == ("__classdict__" : Str)) = false := by decide) :
    Ev F X (.Name x pos) ρ (.d y) := ev_var hi hv hw hd hcd
theorem vl {i : Nat} {x : Str} {pos : Pos} {o : Bool} {ds : List Dat} (hi : X.N[i]? = some x) (hw : ρ[i]? = some (some (.lst o ds))) (hv : Vis X.env.scope x := by first | exact .inl rfl | exact .inr (.inl rfl) | exact .inr (.inr rfl)) (hd : (x == ("__debug__" : Str)) = false := by decide) (hcd : (x == ("__classdict__" : Str)) = false := by decide) :
    Ev F X (.Name x pos) ρ (.lst false ds) := ev_var hi hv hw hd hcd
theorem vk {i : Nat} {x : Str} {pos : Pos} (hi : X.N[i]? = some x) (hw : ρ[i]? = some (some .deck)) (hv : Vis X.env.scope x := by first | exact .inl rfl | exact .inr (.inl rfl) | exact .inr (.inr rfl)) (hd : (x == ("__debug__" : Str)) = false := by decide) (hcd : (x == ("__classdict__" : Str)) = false := by decide) :
    Ev F X (.Name x pos) ρ .deck := ev_var hi hv hw hd hcd
end
end Md
end MdHPart
section MmPart
set_option Elab.async false
set_option linter.all false
set_option maxRecDepth 100000
set_option maxHeartbeats 2000000
/-! The plain law: walks, distances, ways, heights. No program in sight. -/
namespace Md
abbrev Tie := Nat × Nat × Nat
structure Web where
  n : Nat
  ts : List Tie
/-- an edge: two places, its length -/
abbrev Edge := Nat × Nat × Int
def tkey (t : Tie) : Nat := t.1 * 100 + t.2.1 * 10 + t.2.2
structure Web.Ok (k : Nat) (W : Web) : Prop where
  one : 1 ≤ W.n
  small : W.n ≤ 7
  few : W.ts.length ≤ 10
  ties : ∀ t, t ∈ W.ts → t.1 < W.n ∧ t.2.1 < W.n ∧ t.1 ≠ t.2.1 ∧ t.2.2 < k
  sorted : W.ts.Pairwise fun s t => tkey s ≤ tkey t
structure BookOk (b : List Web) : Prop where
  one : 1 ≤ b.length
  three : b.length ≤ 3
  each : ∀ g, g ∈ b → g.Ok b.length ∧ 2 ≤ g.n
structure GardenOk (s : Web) (b : List Web) : Prop where
  start : s.Ok b.length
  book : BookOk b
/-- sizes, steps, end numbers: by kinds -/
abbrev Row := List (Option Int)
def Row.at (r : Row) (c : Nat) : Option Int := r.getD c none
/-- the edges that have lengths -/
def tied (W : Web) (r : Row) : List Edge := W.ts.filterMap fun t => (r.at t.2.2).map fun l => (t.1, t.2.1, l)
def PosE (es : List Edge) : Prop := ∀ e, e ∈ es → 1 ≤ e.2.2
/-- a walk from p, by edges either way, its length -/
inductive Walk (es : List Edge) (p : Nat) : Nat → Int → Prop
  | nil : Walk es p p 0
  | there {u v : Nat} {x l : Int} (h : Walk es p u x) (m : (u, v, l) ∈ es) : Walk es p v (x + l)
  | back {u v : Nat} {x l : Int} (h : Walk es p u x) (m : (v, u, l) ∈ es) : Walk es p v (x + l)
theorem Walk.nonneg {es : List Edge} {p v : Nat} {x : Int} (hp : PosE es) (w : Walk es p v x) : 0 ≤ x := by
  induction w with
  | nil => exact Int.le_refl _
  | there h m ih => have := hp _ m; simp at this; omega
  | back h m ih => have := hp _ m; simp at this; omega
/-- the least walk's length -/
def IsD (es : List Edge) (p v : Nat) (x : Int) : Prop := Walk es p v x ∧ ∀ y, Walk es p v y → x ≤ y
theorem exists_least {P : Int → Prop} (h0 : ∀ x, P x → 0 ≤ x) (h : ∃ x, P x) : ∃ x, P x ∧ ∀ y, P y → x ≤ y := by
  obtain ⟨x, hx⟩ := h
  have : ∀ (m : Nat) (x : Int), x.toNat ≤ m → P x → ∃ x, P x ∧ ∀ y, P y → x ≤ y := by
    intro m
    induction m with
    | zero =>
      intro x hm hx
      refine ⟨x, hx, fun y hy => ?_⟩
      have := h0 x hx; have := h0 y hy; omega
    | succ m ih =>
      intro x hm hx
      by_cases hc : ∃ y, P y ∧ y < x
      · obtain ⟨y, hy, hlt⟩ := hc
        exact ih y (by have := h0 x hx; have := h0 y hy; omega) hy
      · refine ⟨x, hx, fun y hy => ?_⟩
        by_cases hl : y < x
        · exact absurd ⟨y, hy, hl⟩ hc
        · omega
  exact this x.toNat x (Nat.le_refl _) hx
open Classical in
noncomputable def dist (es : List Edge) (p v : Nat) : Option Int := if h : ∃ x, IsD es p v x then some (Classical.choose h) else none
theorem dist_some {es : List Edge} {p v : Nat} {x : Int} : dist es p v = some x ↔ IsD es p v x := by
  unfold dist
  constructor
  · intro h
    split at h
    · rename_i hx
      have := Classical.choose_spec hx
      rw [Option.some.inj h] at this
      exact this
    · cases h
  · intro h
    have hx : ∃ x, IsD es p v x := ⟨x, h⟩
    rw [dif_pos hx]
    have hs := Classical.choose_spec hx
    have := hs.2 x h.1
    have := h.2 _ hs.1
    congr 1
    omega
theorem dist_none {es : List Edge} {p v : Nat} (hp : PosE es) : dist es p v = none ↔ ∀ x, ¬ Walk es p v x := by
  unfold dist
  constructor
  · intro h
    split at h
    · cases h
    · rename_i hx
      intro x hw
      exact hx (exists_least (fun y hy => Walk.nonneg hp hy) ⟨x, hw⟩)
  · intro h
    rw [dif_neg]
    rintro ⟨x, hx⟩
    exact h x hx.1
theorem dist_walk {es : List Edge} {p v : Nat} {x : Int} (hp : PosE es) (w : Walk es p v x) : ∃ y, dist es p v = some y ∧ y ≤ x := by
  obtain ⟨y, hy⟩ := exists_least (P := Walk es p v) (fun y hy => Walk.nonneg hp hy) ⟨x, w⟩
  exact ⟨y, dist_some.mpr hy, hy.2 x w⟩
theorem dist_self {es : List Edge} {p : Nat} (hp : PosE es) : dist es p p = some 0 := dist_some.mpr ⟨.nil, fun y hy => hy.nonneg hp⟩
theorem dist_nonneg {es : List Edge} {p v : Nat} {x : Int} (hp : PosE es) (h : dist es p v = some x) : 0 ≤ x := (dist_some.mp h).1.nonneg hp
/-- the last edge of a shortest walk -/
theorem dist_last {es : List Edge} {p v : Nat} {x : Int} (hp : PosE es) (h : dist es p v = some x) (hv : v ≠ p) :
    ∃ u y l, ((u, v, l) ∈ es ∨ (v, u, l) ∈ es) ∧ dist es p u = some y ∧ x = y + l := by
  obtain ⟨w, hm⟩ := dist_some.mp h
  cases w with
  | nil => exact absurd rfl hv
  | @there u _ y l w m =>
    obtain ⟨z, hz, hle⟩ := dist_walk hp w
    have := hm _ (.there (dist_some.mp hz).1 m)
    exact ⟨u, z, l, .inl m, hz, by omega⟩
  | @back u _ y l w m =>
    obtain ⟨z, hz, hle⟩ := dist_walk hp w
    have := hm _ (.back (dist_some.mp hz).1 m)
    exact ⟨u, z, l, .inr m, hz, by omega⟩
theorem dist_edge {es : List Edge} {p u v : Nat} {x l : Int} (hp : PosE es) (m : (u, v, l) ∈ es ∨ (v, u, l) ∈ es) (h : dist es p u = some x) : ∃ y, dist es p v = some y ∧ y ≤ x + l := by
  rcases m with m | m
  · exact dist_walk hp (.there (dist_some.mp h).1 m)
  · exact dist_walk hp (.back (dist_some.mp h).1 m)
theorem dist_pos {es : List Edge} {p v : Nat} {x : Int} (hp : PosE es) (h : dist es p v = some x) (hv : v ≠ p) : 1 ≤ x := by
  obtain ⟨u, y, l, m, hu, rfl⟩ := dist_last hp h hv
  have := dist_nonneg hp hu
  have : 1 ≤ l := by
    rcases m with m | m
    · exact hp _ m
    · exact hp _ m
  omega
/-- a place out of the web has no way -/
def Inn (n : Nat) (es : List Edge) : Prop := ∀ e, e ∈ es → e.1 < n ∧ e.2.1 < n
theorem Walk.inn {es : List Edge} {n p v : Nat} {x : Int} (hn : Inn n es) (hp : p < n) (w : Walk es p v x) : v < n := by
  cases w with
  | nil => exact hp
  | there h m => exact (hn _ m).2
  | back h m => exact (hn _ m).1
/-- sums that are attained and closed are the distances -/
theorem closed_le {es : List Edge} {p : Nat} {f : Nat → Option Int} (h0 : ∃ z, f p = some z ∧ z ≤ 0)
    (hc : ∀ u v l, ((u, v, l) ∈ es ∨ (v, u, l) ∈ es) → ∀ x, f u = some x → ∃ y, f v = some y ∧ y ≤ x + l) {v : Nat} {x : Int} (w : Walk es p v x) : ∃ y, f v = some y ∧ y ≤ x := by
  induction w with
  | nil => exact h0
  | there h m ih =>
    obtain ⟨y, hy, hle⟩ := ih
    obtain ⟨z, hz, hl⟩ := hc _ _ _ (.inl m) y hy
    exact ⟨z, hz, by omega⟩
  | back h m ih =>
    obtain ⟨y, hy, hle⟩ := ih
    obtain ⟨z, hz, hl⟩ := hc _ _ _ (.inr m) y hy
    exact ⟨z, hz, by omega⟩
theorem dist_of {es : List Edge} {p : Nat} {f : Nat → Option Int} (hp : PosE es) (h0 : ∃ z, f p = some z ∧ z ≤ 0)
    (hc : ∀ u v l, ((u, v, l) ∈ es ∨ (v, u, l) ∈ es) → ∀ x, f u = some x → ∃ y, f v = some y ∧ y ≤ x + l) (ha : ∀ v x, f v = some x → Walk es p v x) (v : Nat) : f v = dist es p v := by
  cases e : f v with
  | none =>
    refine ((dist_none hp).mpr fun x hw => ?_).symm
    obtain ⟨y, hy, _⟩ := closed_le h0 hc hw
    rw [e] at hy; cases hy
  | some x =>
    refine (dist_some.mpr ⟨ha v x e, fun y hy => ?_⟩).symm
    obtain ⟨z, hz, hle⟩ := closed_le h0 hc hy
    rw [e] at hz; cases hz
    exact hle
/-- a lower bound by heights -/
theorem heights_le {es : List Edge} {p : Nat} {f : Nat → Int} (hf : f p ≤ 0) (hs : ∀ u v l, (u, v, l) ∈ es → f v - f u ≤ l ∧ f u - f v ≤ l) {v : Nat} {x : Int} (w : Walk es p v x) : f v ≤ x := by
  induction w with
  | nil => exact hf
  | there h m ih => have := (hs _ _ _ m).1; omega
  | back h m ih => have := (hs _ _ _ m).2; omega
/-! ### how many places lie below -/
noncomputable def below (es : List Edge) (p n : Nat) (y : Int) : Nat := (List.range n).countP fun v => match dist es p v with | some x => decide (x ≤ y) | none => false
open Classical in
theorem countP_lt {α : Type} {p q : α → Bool} {l : List α} {a : α} (ha : a ∈ l) (hq : q a = true) (hp : p a = false) (h : ∀ x, p x = true → q x = true) : l.countP p + 1 ≤ l.countP q := by
  induction l with
  | nil => cases ha
  | cons b t ih =>
    have mono : t.countP p ≤ t.countP q := List.countP_mono_left fun x _ hx => h x hx
    rcases List.mem_cons.mp ha with rfl | ha
    · rw [List.countP_cons_of_pos hq, List.countP_cons_of_neg (by rw [hp]; exact Bool.false_ne_true)]
      omega
    · have := ih ha
      by_cases hb : p b = true
      · rw [List.countP_cons_of_pos hb, List.countP_cons_of_pos (h b hb)]; omega
      · rw [List.countP_cons_of_neg hb]
        by_cases hqb : q b = true
        · rw [List.countP_cons_of_pos hqb]; omega
        · rw [List.countP_cons_of_neg hqb]; omega
theorem dist_below {es : List Edge} {p n : Nat} {L : Int} (hp : PosE es) (hn : Inn n es) (hpn : p < n) (hL : ∀ e, e ∈ es → e.2.2 ≤ L) (hL0 : 0 ≤ L) : ∀ (m : Nat) (v : Nat) (y : Int), y.toNat ≤ m → dist es p v = some y → y ≤ (below es p n y : Int) * L := by
  intro m
  induction m with
  | zero =>
    intro v y hm h
    have := dist_nonneg hp h
    have : y = 0 := by omega
    subst this
    exact Int.mul_nonneg (Int.natCast_nonneg _) hL0
  | succ m ih =>
    intro v y hm h
    by_cases hv : v = p
    · subst hv
      rw [dist_self hp] at h
      cases h
      exact Int.mul_nonneg (Int.natCast_nonneg _) hL0
    · obtain ⟨u, x, l, me, hu, rfl⟩ := dist_last hp h hv
      have hl1 : 1 ≤ l := by rcases me with me | me <;> exact hp _ me
      have hlL : l ≤ L := by rcases me with me | me <;> exact hL _ me
      have hx := dist_nonneg hp hu
      have h1 := ih u x (by omega) hu
      have hvn : v < n := (dist_some.mp h).1.inn hn hpn
      have h2 : below es p n x + 1 ≤ below es p n (x + l) := by
        unfold below
        refine countP_lt (a := v) (List.mem_range.mpr hvn) ?_ ?_ ?_
        · rw [h]; simp
        · rw [h]; simp; omega
        · intro z hz
          cases e : dist es p z with
          | none => rw [e] at hz; cases hz
          | some t => rw [e] at hz; simp at hz ⊢; omega
      have h3 : ((below es p n x : Int) + 1) * L ≤ (below es p n (x + l) : Int) * L := Int.mul_le_mul_of_nonneg_right (by omega) hL0
      rw [Int.add_mul] at h3
      omega
theorem dist_bound {es : List Edge} {p n v : Nat} {L y : Int} (hp : PosE es) (hn : Inn n es) (hpn : p < n) (hL : ∀ e, e ∈ es → e.2.2 ≤ L) (hL0 : 0 ≤ L) (h : dist es p v = some y) : y ≤ (n : Int) * L := by
  have h1 := dist_below hp hn hpn hL hL0 y.toNat v y (Nat.le_refl _) h
  have h2 : below es p n y ≤ n := by unfold below; exact Nat.le_trans List.countP_le_length (by simp)
  have h3 : (below es p n y : Int) * L ≤ (n : Int) * L := Int.mul_le_mul_of_nonneg_right (by omega) hL0
  omega
/-! ### end numbers -/
noncomputable def ends (b : List Web) : Nat → Row
  | 0 => b.map fun _ => some 1
  | m + 1 => b.map fun g => dist (tied g (ends b m)) 0 1
theorem ends_length (b : List Web) (m : Nat) : (ends b m).length = b.length := by cases m <;> simp [ends]
def RowPos (r : Row) : Prop := ∀ c l, r.at c = some l → 1 ≤ l
theorem tied_pos {W : Web} {r : Row} (h : RowPos r) : PosE (tied W r) := by
  intro e he
  unfold tied at he
  obtain ⟨t, _, ht⟩ := List.mem_filterMap.mp he
  cases hr : r.at t.2.2 with
  | none => rw [hr] at ht; cases ht
  | some l => rw [hr] at ht; cases ht; exact h _ _ hr
theorem tied_inn {k : Nat} {W : Web} {r : Row} (ok : W.Ok k) : Inn W.n (tied W r) := by
  intro e he
  unfold tied at he
  obtain ⟨t, hm, ht⟩ := List.mem_filterMap.mp he
  cases hr : r.at t.2.2 with
  | none => rw [hr] at ht; cases ht
  | some l => rw [hr] at ht; cases ht; exact ⟨(ok.ties t hm).1, (ok.ties t hm).2.1⟩
theorem tied_mem {W : Web} {r : Row} {a b : Nat} {l : Int} : (a, b, l) ∈ tied W r ↔ ∃ c, (a, b, c) ∈ W.ts ∧ r.at c = some l := by
  unfold tied
  rw [List.mem_filterMap]
  constructor
  · rintro ⟨⟨x, y, c⟩, hm, ht⟩
    cases hr : r.at c with
    | none => simp only [hr] at ht; cases ht
    | some m => simp only [hr] at ht; cases ht; exact ⟨c, hm, hr⟩
  · rintro ⟨c, hm, hr⟩
    exact ⟨(a, b, c), hm, by simp only [hr]; rfl⟩
theorem at_map {b : List Web} {f : Web → Option Int} {c : Nat} : Row.at (b.map f) c = (b[c]?).bind f := by
  unfold Row.at
  rw [List.getD_eq_getElem?_getD, List.getElem?_map]
  cases b[c]? <;> rfl
theorem ends_pos (b : List Web) : ∀ m, RowPos (ends b m)
  | 0 => fun c l h => by
    unfold ends at h
    rw [at_map] at h
    cases e : b[c]? with
    | none => rw [e] at h; cases h
    | some g => rw [e] at h; cases h; exact Int.le_refl _
  | m + 1 => fun c l h => by
    unfold ends at h
    rw [at_map] at h
    cases e : b[c]? with
    | none => rw [e] at h; cases h
    | some g => rw [e] at h; exact dist_pos (tied_pos (ends_pos b m)) h (by decide)
theorem ends_bound {b : List Web} (ok : BookOk b) : ∀ m c l, (ends b m).at c = some l → l ≤ 7 ^ m
  | 0, c, l, h => by
    unfold ends at h
    rw [at_map] at h
    cases e : b[c]? with
    | none => rw [e] at h; cases h
    | some g => rw [e] at h; cases h; exact Int.le_refl _
  | m + 1, c, l, h => by
    unfold ends at h
    rw [at_map] at h
    cases e : b[c]? with
    | none => rw [e] at h; cases h
    | some g =>
      rw [e] at h
      have hg : g ∈ b := List.mem_of_getElem? e
      obtain ⟨gok, g2⟩ := ok.each g hg
      have p7 : (0 : Int) ≤ 7 ^ m := Int.le_of_lt (Int.pow_pos (by decide))
      have := dist_bound (L := 7 ^ m) (tied_pos (ends_pos b m)) (tied_inn gok) (by omega) (fun e he => by
        obtain ⟨a, b', l'⟩ := e
        obtain ⟨c', _, hr⟩ := tied_mem.mp he
        exact ends_bound ok m c' l' hr) p7 h
      have hs : (g.n : Int) ≤ 7 := by have := gok.small; omega
      have h7 : (g.n : Int) * 7 ^ m ≤ 7 * 7 ^ m := Int.mul_le_mul_of_nonneg_right hs p7
      rw [Int.pow_succ]
      omega
/-- the distance after m rounds -/
noncomputable def far (s : Web) (b : List Web) (m p q : Nat) : Option Int := dist (tied s (ends b m)) p q
theorem far_bound {s : Web} {b : List Web} (ok : GardenOk s b) {m p q : Nat} {y : Int} (hp : p < s.n) (h : far s b m p q = some y) : 0 ≤ y ∧ y ≤ 7 * 7 ^ m := by
  have p7 : (0 : Int) ≤ 7 ^ m := Int.le_of_lt (Int.pow_pos (by decide))
  refine ⟨dist_nonneg (tied_pos (ends_pos b m)) h, ?_⟩
  have := dist_bound (L := 7 ^ m) (tied_pos (ends_pos b m)) (tied_inn ok.start) hp (fun e he => by
    obtain ⟨a, b', l'⟩ := e
    obtain ⟨c', _, hr⟩ := tied_mem.mp he
    exact ends_bound ok.book m c' l' hr) p7 h
  have hs : (s.n : Int) ≤ 7 := by have := ok.start.small; omega
  have h7 : (s.n : Int) * 7 ^ m ≤ 7 * 7 ^ m := Int.mul_le_mul_of_nonneg_right hs p7
  omega
end Md
end MmPart
section MdIPart
set_option Elab.async false
set_option linter.all false
set_option maxRecDepth 100000
set_option maxHeartbeats 2000000
/-! sorted of a tuple of ties, == of lists of ties. -/
namespace TS
open PySem PyProof.Rows
section
variable {prog : Program} {w : World} {A : Around} {E : Value → Shared → Prop} {s : Shared}
theorem sorted_tupsT {l : Addr} {o : Obj} {c : String} {vs : List Value} {n d : Nat} {B : Int} {Q : Value → Shared → Prop} (hT : c = "list" ∨ c = "tuple") (ho : s.heap.get? l = some o) (hc : o.cls = .type c) (hdat : o.data = .seq vs.toArray n) (h64 : vs.length < 64) (hd : 1 ≤ d) (x : TupsOk s.heap d B vs)
    (h : ∀ (out : Array Value) (h1 h' : Heap) (p : Addr) (e : Nat), out.toList.Perm vs → out.toList.Pairwise (fun u v => code B (intsOf s.heap u) ≤ code B (intsOf s.heap v)) → (∀ b o', s.heap.get? b = some o' → h1.get? b = some o') → (∀ b o', h1.get? b = some o' → h'.get? b = some o') → h1.objs.size ≤ p →
      h'.get? p = some (seqObj "list" out e) → Q (.ref p) { s with heap := h' }) : wpAny (model prog w) A (call (.builtin "sorted") [.ref l]) Q E s := by
  refine Calls.call_function_entry kind_sorted plain_sorted entry_sorted (args_sorted1 _) ?_
  unfold Builtin.«sorted»
  refine wpAny_bind (m := checkCount "sorted" 1 1 _) (wpAny_pure ?_)
  refine wpAny_bind (wpAny_collect_seq l hT ho hc hdat (fun h1 kp => ?_) (by rw [sizeLine_eq, List.size_toArray]; omega))
  show wpAny _ _ _ _ _ { s with heap := h1 }
  refine wpAny_bind (wpAny_newList ?_ (by rw [sizeLine_eq]; show vs.toArray.toList.length ≤ _; simp; omega))
  have hvs : vs.toArray.toList = vs := by simp
  rw [hvs]
  have hoL : (h1.push (seqObj "list" vs.toArray 0)).get? h1.objs.size = some (seqObj "list" vs.toArray 0) := Heap.get?_push_size _ rfl
  have keep : ∀ b o, s.heap.get? b = some o → (h1.push (seqObj "list" vs.toArray 0)).get? b = some o := fun b o q => Heap.get?_push_of_some _ (kp b o q)
  show wpAny _ _ _ _ _ { s with heap := h1.push (seqObj "list" vs.toArray 0) }
  refine wpAny_bind (wpAny_holding (wpAny_call_entry slot_list_sort ⟨_, hoL, rfl⟩ entry_list_sort (sort_tups hoL h64 hd (x.keeps fun b o q _ => keep b o q) (fun v => code B (intsOf s.heap v)) (fun v hv ns t => ?_) fun out a1 a2 => ⟨_, rfl, ?_⟩) (args_list_sort _)))
  · obtain ⟨ns0, t0, _⟩ := x v hv
    have e : ns = ns0 := t.ints.symm.trans (t0.keeps fun b o q _ => keep b o q).ints
    rw [e]
    show code B (intsOf s.heap v) = code B ns0
    rw [t0.ints]
  · obtain ⟨e, he⟩ := PyProof.Rows.sortedHeap_at (out := out) hoL
    refine wpAny_pure ⟨_, rfl, h out h1 _ _ e a1 a2 kp (fun b o' q => ?_) (Nat.le_refl _) he⟩
    have hlt : b < h1.objs.size := Heap.lt_size q
    rw [PyProof.Rows.sortedHeap_old (Nat.ne_of_lt hlt) (by rw [size_push']; exact Nat.lt_succ_of_lt hlt)]
    exact Heap.get?_push_of_some _ q
end
end TS
namespace Md
open PySem L2
def TupH (H : Hp) (x : V) (ns : List Int) : Prop := ∃ t, x = .ref t ∧ H t = some (.tup (ns.map V.int))
/-- sorted(xs), xs a list or a tuple -/
def rSortX (K : PySem.W.Frag) (d : Nat) (B : Int) : List V → Hp → VK → Prop := fun vs H Q => ∃ (a : Addr) (xs : List V), vs = [V.ref a] ∧ (SqL K H a xs ∨ SqT K H a xs) ∧ xs.length < 64 ∧ (∀ x ∈ xs, ∃ ns, TupH H x ns ∧ ns.length = d ∧ TS.Bd B ns) ∧
  ∀ (ys : List V) (p : Addr), ys.Perm xs → ys.Pairwise (fun x y => ∀ n m, TupH H x n → TupH H y m → TS.code B n ≤ TS.code B m) → H p = none → Q (.ref p) (upd H p (.lst ys))
theorem cr_sortX {X : Cx} {d : Nat} {B : Int} (hd : 1 ≤ d) : CallR X (.builtin "sorted") (rSortX X.K d B) := by
  intro pins s σ H vs us Q I r h
  obtain ⟨a, xs, rfl, hs, h64, hx, q⟩ := h
  rw [Vals.ref1 r]
  have main : ∀ (its : List Value) (o : Obj) (c : String) (n : Nat), (c = "list" ∨ c = "tuple") → Vals xs its → s.heap.get? a = some o → o.cls = .type c → o.data = .seq its.toArray n → xs.length ≤ sizeLine → wpAny (model X.prog X.w) X.A (call (.builtin "sorted") [Value.ref a]) (EP X pins σ Q) X.xe s := by
    intro its o c n hT rv ho hc hdat hz
    obtain ⟨e1, e2⟩ := bkV_refs rv fun x m => by
      obtain ⟨ns, ⟨t, e, _⟩, _⟩ := hx x m
      exact ⟨t, e⟩
    refine TS.sorted_tupsT (d := d) (B := B) hT ho hc hdat (by rw [← rv.length]; exact h64) hd (fun v hv => ?_) fun out g1 h' p e h1 h2 kp kp2 lo he => ?_
    · obtain ⟨t, rfl⟩ := e2 v hv
      have hm : V.ref t ∈ xs := by
        rw [e1]
        exact List.mem_map.mpr ⟨_, hv, rfl⟩
      obtain ⟨ns, ⟨t', e, ht⟩, hn, hb⟩ := hx _ hm
      cases e
      exact ⟨ns, tupI_raw I (SqT.of ht), hn, hb⟩
    · have h3 : ∀ u ∈ out.toList, ∃ a, u = Value.ref a := fun u hu => e2 u (h1.mem_iff.mp hu)
      have hp : (out.toList.map bkV).Perm xs := by
        rw [e1]
        exact h1.map bkV
      have hlen : (out.toList.map bkV).length ≤ sizeLine := by
        rw [hp.length_eq]
        exact hz
      have I1 : Inv X pins σ H { s with heap := g1 } := I.kept (t' := s.toks) kp
      refine ⟨.ref p, upd H p (.lst (out.toList.map bkV)), I1.laid (t' := s.toks) kp2 lo ⟨hlen, out.toList, e, bkV_vals h3, by simpa using he⟩, rfl, q _ _ hp ?_ (I1.hok.fresh lo)⟩
      rw [List.pairwise_map]
      refine List.Pairwise.imp (fun {u v} huv n m hn hm => ?_) h2
      obtain ⟨t, et, ht⟩ := hn
      obtain ⟨t', et', ht'⟩ := hm
      have eu := bkV_ref et
      have ev := bkV_ref et'
      have i1 : TS.intsOf s.heap u = n := by
        rw [eu]
        exact (tupI_raw I (SqT.of ht)).ints
      have i2 : TS.intsOf s.heap v = m := by
        rw [ev]
        exact (tupI_raw I (SqT.of ht')).ints
      rw [← i1, ← i2]
      exact huv
  rcases hs with hs | hs
  · obtain ⟨its, rv, hl, hz⟩ := I.list hs
    obtain ⟨o, ho, hc, n, hdd⟩ := hl.isList
    exact main its o "list" n (.inl rfl) rv ho hc hdd hz
  · obtain ⟨its, rv, ⟨o, ho, hc, n, hdd⟩, hz⟩ := I.tuple hs
    exact main its o "tuple" n (.inr rfl) rv ho hc hdd hz
def dTie (t : Tie) : Dat := .tup [.int t.1, .int t.2.1, .int t.2.2]
def Small (t : Tie) : Prop := t.1 < 10 ∧ t.2.1 < 10 ∧ t.2.2 < 10
theorem code_tie (t : Tie) : TS.code 10 [(t.1 : Int), (t.2.1 : Int), (t.2.2 : Int)] = (tkey t : Int) := by
  unfold tkey
  simp only [TS.code, List.length_cons, List.length_nil]
  omega
theorem key_inj {s t : Tie} (hs : Small s) (ht : Small t) (h : tkey s = tkey t) : s = t := by
  obtain ⟨a, b, c⟩ := s
  obtain ⟨x, y, z⟩ := t
  unfold Small at hs ht
  unfold tkey at h
  simp at hs ht h
  have h1 : a = x := by omega
  have h2 : b = y := by omega
  have h3 : c = z := by omega
  rw [h1, h2, h3]
/-- a sorted arrangement is the only one -/
theorem sorted_unique : ∀ {xs ys : List Tie}, ys.Perm xs → (∀ t, t ∈ xs → Small t) → xs.Pairwise (fun s t => tkey s ≤ tkey t) → ys.Pairwise (fun s t => tkey s ≤ tkey t) → ys = xs := by
  intro xs ys hp hs h1 h2
  refine List.Perm.eq_of_pairwise (le := fun s t => tkey s ≤ tkey t) (fun a b ha hb h3 h4 => key_inj (hs a (hp.mem_iff.mp ha)) (hs b hb) (Nat.le_antisymm h3 h4)) h2 h1 hp
theorem reps_ties {H : Hp} : ∀ {vs : List V} {ts : List Tie}, Reps H vs (ts.map dTie) → ∀ x, x ∈ vs → ∃ t, t ∈ ts ∧ ∃ p, x = .ref p ∧ H p = some (.tup [.int t.1, .int t.2.1, .int t.2.2])
  | [], _, _, x, hx => by cases hx
  | v :: vs, [], h, x, hx => by cases h
  | v :: vs, t :: ts, h, x, hx => by
    cases h with
    | cons h1 h2 =>
      rcases List.mem_cons.mp hx with rfl | hx
      · cases h1 with
        | @tup p us _ e r =>
          have : us = [V.int t.1, V.int t.2.1, V.int t.2.2] := r.ints (ns := [(t.1 : Int), (t.2.1 : Int), (t.2.2 : Int)])
          subst this
          exact ⟨t, List.mem_cons_self, p, rfl, e⟩
      · obtain ⟨t', m, r⟩ := reps_ties h2 x hx
        exact ⟨t', List.mem_cons_of_mem _ m, r⟩

theorem reps_perm {H : Hp} {xs ys : List V} (hp : ys.Perm xs) : ∀ {ts : List Tie}, Reps H xs (ts.map dTie) → ∃ ts' : List Tie, ts'.Perm ts ∧ Reps H ys (ts'.map dTie) := by
  induction hp with
  | nil => intro ts r; exact ⟨ts, .refl _, r⟩
  | @cons x l₁ l₂ hp ih =>
    intro ts r
    cases ts with
    | nil => cases r
    | cons t ts =>
      cases r with
      | cons h r =>
        obtain ⟨ts', h1, h2⟩ := ih r
        exact ⟨t :: ts', .cons t h1, .cons h h2⟩
  | swap x y l =>
    intro ts r
    cases ts with
    | nil => cases r
    | cons t ts =>
      cases r with
      | cons h r =>
        cases ts with
        | nil => cases r
        | cons u ts =>
          cases r with
          | cons h' r => exact ⟨u :: t :: ts, .swap t u ts, .cons h' (.cons h r)⟩
  | trans h1 h2 ih1 ih2 =>
    intro ts r
    obtain ⟨us, a1, a2⟩ := ih2 r
    obtain ⟨ws, b1, b2⟩ := ih1 a2
    exact ⟨ws, b1.trans a1, b2⟩
theorem rep_tie {H : Hp} {v : V} {t : Tie} (r : Rep H v (dTie t)) : TupH H v [(t.1 : Int), (t.2.1 : Int), (t.2.2 : Int)] := by
  cases r with
  | @tup p us _ e r =>
    have : us = [V.int t.1, V.int t.2.1, V.int t.2.2] := r.ints (ns := [(t.1 : Int), (t.2.1 : Int), (t.2.2 : Int)])
    subst this
    exact ⟨p, rfl, e⟩
theorem reps_mem {H : Hp} : ∀ {vs : List V} {ds : List Dat} {x : V}, Reps H vs ds → x ∈ vs → ∃ d, d ∈ ds ∧ Rep H x d
  | _, _, _, .nil, h => by cases h
  | _, _, x, .cons r t, h => by
    rcases List.mem_cons.mp h with rfl | h
    · exact ⟨_, List.mem_cons_self, r⟩
    · obtain ⟨d, m, r⟩ := reps_mem t h
      exact ⟨d, List.mem_cons_of_mem _ m, r⟩
theorem reps_memD {H : Hp} : ∀ {vs : List V} {ds : List Dat} {d : Dat}, Reps H vs ds → d ∈ ds → ∃ x, x ∈ vs ∧ Rep H x d
  | _, _, _, .nil, h => by cases h
  | _, _, x, .cons r t, h => by
    rcases List.mem_cons.mp h with rfl | h
    · exact ⟨_, List.mem_cons_self, r⟩
    · obtain ⟨d, m, r⟩ := reps_memD t h
      exact ⟨d, List.mem_cons_of_mem _ m, r⟩
theorem reps_sorted {H : Hp} : ∀ {ys : List V} {ts : List Tie}, Reps H ys (ts.map dTie) → ys.Pairwise (fun x y => ∀ n m, TupH H x n → TupH H y m → TS.code 10 n ≤ TS.code 10 m) → ts.Pairwise fun s t => tkey s ≤ tkey t
  | _, [], _, _ => .nil
  | _, t :: ts, r, hp => by
    cases r with
    | cons h r =>
      rw [List.pairwise_cons] at hp ⊢
      refine ⟨fun u hu => ?_, reps_sorted r hp.2⟩
      obtain ⟨x, hx, rx⟩ := reps_memD r (List.mem_map.mpr ⟨u, hu, rfl⟩)
      have := hp.1 x hx _ _ (rep_tie h) (rep_tie rx)
      rw [code_tie, code_tie] at this
      omega
mutual
def toPy : Dat → PyData
  | .non => .none
  | .bl b => .bool b
  | .int i => .int i
  | .str x => .str x
  | .tup ds => .tuple (toPys ds)
def toPys : List Dat → List PyData
  | [] => []
  | d :: ds => toPy d :: toPys ds
end
mutual
theorem Rep.dp {K : PySem.W.Frag} {H : Hp} : ∀ {v : V} {d : Dat}, Rep H v d → Dp K H v (toPy d)
  | _, _, .non => by unfold toPy; exact .non
  | _, _, .bl b => by unfold toPy; exact .bl b
  | _, _, .int i => by unfold toPy; exact .int i
  | _, _, .str x => by unfold toPy; exact .str x
  | _, _, .tup h r => by unfold toPy; exact .tup (SqT.of h) (Reps.dp r)
theorem Reps.dp {K : PySem.W.Frag} {H : Hp} : ∀ {vs : List V} {ds : List Dat}, Reps H vs ds → DpAll K H vs (toPys ds)
  | _, _, .nil => by unfold toPys; exact .nil
  | _, _, .cons h t => by unfold toPys; exact .cons (Rep.dp h) (Reps.dp t)
end
section
variable {F : Fr} {X : Cx} {ρ : Env1} {a b e : Expr} {pos p : Pos} {w : W}
theorem ec_sorted {Φ : W → Prop} (hg : Gl X "sorted") (hm : X.mg "sorted" = none) (h : EC F X e ρ fun w => ∃ ts : List Tie, seqW w = some (ts.map dTie) ∧ ts.length < 64 ∧ (∀ t, t ∈ ts → Small t) ∧ ∀ ts' : List Tie, ts'.Perm ts → ts'.Pairwise (fun s t => tkey s ≤ tkey t) → Φ (.lst true (ts'.map dTie)))
    (hs : starEach [e] X.env = (false, eval e X.env) :: starEach [] X.env := by rfl) : EC F X (.Call (.Name "sorted" p) [e] [] pos) ρ Φ :=
  ec_callB (cr_sortX (d := 3) (B := 10) (by decide)) hg hm (by decide +kernel) (ea_cons (h.to fun w ⟨ts, hw, hl, hsm, p1⟩ => ea_nil fun H H1 vs Q i1 r q => by
    obtain ⟨v, rfl, r1⟩ := r.one
    obtain ⟨pp, us, rfl, sq, rs⟩ := r1.seq (K := X.K) hw
    refine ⟨pp, us, rfl, sq, by rw [rs.length, List.length_map]; exact hl, fun x hx => ?_, fun ys l hp hpw hl' => ?_⟩
    · obtain ⟨d, hd, rd⟩ := reps_mem rs hx
      obtain ⟨t, ht, rfl⟩ := List.mem_map.mp hd
      refine ⟨_, rep_tie rd, rfl, fun m hm => ?_⟩
      obtain ⟨h1, h2, h3⟩ := hsm t ht
      simp only [List.mem_cons, List.not_mem_nil, or_false] at hm
      rcases hm with rfl | rfl | rfl <;> omega
    · obtain ⟨ts', h1, h2⟩ := reps_perm hp rs
      exact q _ _ _ (Ext.new hl') (inv_new i1 hl') (repL_new i1 hl' h2) (p1 ts' h1 (reps_sorted h2 hpw))) hs) (he := hs) (hpl := rfl)
/-- == of two lists -/
theorem ec_eqL {Φ : W → Prop} (hu : X.A.units + 64 < cLine) (h : EC F X a ρ fun w1 => ∃ (o : Bool) (ds : List Dat), w1 = .lst o ds ∧ EC F X b ρ fun w2 => ∃ (o' : Bool) (es : List Dat), w2 = .lst o' es ∧ SeqAt.shaped (.list (toPys ds)) = true ∧ SeqAt.shaped (.list (toPys es)) = true ∧ Φ (.d (.bl (PyData.eqv (.list (toPys ds)) (.list (toPys es)))))) :
    EC F X (.Compare a [.Eq] [b] pos) ρ Φ :=
  ec_cmp (op_eqD hu) (nomark _) (h.to fun w1 ⟨o, ds, e1, h2⟩ => h2.to fun w2 ⟨o', es, e2, s1, s2, p1⟩ H H1 va vb Q i1 r1 r2 q => by
    subst e1; subst e2
    obtain ⟨x, vs, rfl, x2, x3, _⟩ := r1
    obtain ⟨y, us, rfl, y2, y3, _⟩ := r2
    exact ⟨_, _, .lst (SqL.of x2) x3.dp, .lst (SqL.of y2) y3.dp, s1, s2, q _ H1 _ (.refl F H1) i1 (repD (.bl _)) p1⟩)
theorem et_neL {Φ : Bool → Prop} (hu : X.A.units + 64 < cLine) (h : EC F X a ρ fun w1 => ∃ (o : Bool) (ds : List Dat), w1 = .lst o ds ∧ EC F X b ρ fun w2 => ∃ (o' : Bool) (es : List Dat), w2 = .lst o' es ∧ SeqAt.shaped (.list (toPys ds)) = true ∧ SeqAt.shaped (.list (toPys es)) = true ∧ Φ (!PyData.eqv (.list (toPys ds)) (.list (toPys es)))) :
    ET F X (.Compare a [.NotEq] [b] pos) ρ Φ :=
  et_cmp (op_neD hu) (nomark _) (h.to fun w1 ⟨o, ds, e1, h2⟩ => h2.to fun w2 ⟨o', es, e2, s1, s2, p1⟩ H H1 va vb Q i1 r1 r2 q => by
    subst e1; subst e2
    obtain ⟨x, vs, rfl, x2, x3, _⟩ := r1
    obtain ⟨y, us, rfl, y2, y3, _⟩ := r2
    exact ⟨_, _, .lst (SqL.of x2) x3.dp, .lst (SqL.of y2) y3.dp, s1, s2, q _ H1 (.refl F H1) i1 p1⟩)
end
theorem canLay_ties : ∀ ts : List Tie, PyData.canLayAll0 (toPys (ts.map dTie)) = true
  | [] => by simp [toPys, PyData.canLayAll0]
  | t :: ts => by simp [toPys, toPy, dTie, PyData.canLayAll0, PyData.canLay0, canLay_ties ts]
theorem canLay_ints : ∀ ns : List Int, PyData.canLayAll0 (toPys (ns.map Dat.int)) = true
  | [] => by simp [toPys, PyData.canLayAll0]
  | t :: ts => by simp [toPys, toPy, PyData.canLayAll0, PyData.canLay0, canLay_ints ts]
theorem depth_ties : ∀ ts : List Tie, PyData.depthAll (toPys (ts.map dTie)) ≤ 10
  | [] => by simp [toPys, PyData.depthAll]
  | t :: ts => by have := depth_ties ts; simp [toPys, toPy, dTie, PyData.depthAll, PyData.depth]; omega
theorem depth_ints : ∀ ns : List Int, PyData.depthAll (toPys (ns.map Dat.int)) ≤ 10
  | [] => by simp [toPys, PyData.depthAll]
  | t :: ts => by have := depth_ints ts; simp [toPys, toPy, PyData.depthAll, PyData.depth]; omega
theorem shaped_ties (ts : List Tie) : SeqAt.shaped (.list (toPys (ts.map dTie))) = true := by
  unfold SeqAt.shaped
  have := depth_ties ts
  simp [PyData.canLay0, canLay_ties, PyData.depth]
  omega
theorem shaped_ints (ts : List Int) : SeqAt.shaped (.list (toPys (ts.map Dat.int))) = true := by
  unfold SeqAt.shaped
  have := depth_ints ts
  simp [PyData.canLay0, canLay_ints, PyData.depth]
  omega
end Md
end MdIPart
section P0Part
set_option Elab.async false
set_option linter.all false
set_option maxRecDepth 100000
set_option maxHeartbeats 2000000
/-! The text by places; data of the plain law as Python's data. -/
namespace Md
open PySem L2
def top (i : Nat) : Stmt := PySem.Challenge.pw_manydeep_k67_whole_certificates_of_dista.main.body.getD i (.Pass ⟨0, 0, 0, 0⟩)
abbrev s_is_integer : Stmt := top 7
abbrev N_is_integer : List Str := ["thing"]
theorem sc_is_integer : FnScope N_is_integer ["thing"] (defScope s_is_integer) := ⟨rfl, rfl, rfl, by decide +kernel, rfl, by decide +kernel, by decide +kernel⟩
abbrev s_is_between : Stmt := top 8
abbrev N_is_between : List Str := ["thing", "least", "most"]
theorem sc_is_between : FnScope N_is_between ["thing", "least", "most"] (defScope s_is_between) := ⟨rfl, rfl, rfl, by decide +kernel, rfl, by decide +kernel, by decide +kernel⟩
abbrev s_is_place : Stmt := top 9
abbrev N_is_place : List Str := ["web", "thing"]
theorem sc_is_place : FnScope N_is_place ["web", "thing"] (defScope s_is_place) := ⟨rfl, rfl, rfl, by decide +kernel, rfl, by decide +kernel, by decide +kernel⟩
abbrev s_is_tie : Stmt := top 10
abbrev N_is_tie : List Str := ["places", "thing"]
theorem sc_is_tie : FnScope N_is_tie ["places", "thing"] (defScope s_is_tie) := ⟨rfl, rfl, rfl, by decide +kernel, rfl, by decide +kernel, by decide +kernel⟩
abbrev s_is_web_value : Stmt := top 11
abbrev N_is_web_value : List Str := ["thing", "tie"]
theorem sc_is_web_value : FnScope N_is_web_value ["thing"] (defScope s_is_web_value) := ⟨rfl, rfl, rfl, by decide +kernel, rfl, by decide +kernel, by decide +kernel⟩
abbrev s_has_kinds_below : Stmt := top 12
abbrev N_has_kinds_below : List Str := ["web", "many", "tie"]
theorem sc_has_kinds_below : FnScope N_has_kinds_below ["web", "many"] (defScope s_has_kinds_below) := ⟨rfl, rfl, rfl, by decide +kernel, rfl, by decide +kernel, by decide +kernel⟩
abbrev s_is_growth_value : Stmt := top 13
abbrev N_is_growth_value : List Str := ["thing"]
theorem sc_is_growth_value : FnScope N_is_growth_value ["thing"] (defScope s_is_growth_value) := ⟨rfl, rfl, rfl, by decide +kernel, rfl, by decide +kernel, by decide +kernel⟩
abbrev s_is_book_value : Stmt := top 14
abbrev N_is_book_value : List Str := ["thing", "growth"]
theorem sc_is_book_value : FnScope N_is_book_value ["thing"] (defScope s_is_book_value) := ⟨rfl, rfl, rfl, by decide +kernel, rfl, by decide +kernel, by decide +kernel⟩
abbrev s_is_garden_value : Stmt := top 15
abbrev N_is_garden_value : List Str := ["thing"]
theorem sc_is_garden_value : FnScope N_is_garden_value ["thing"] (defScope s_is_garden_value) := ⟨rfl, rfl, rfl, by decide +kernel, rfl, by decide +kernel, by decide +kernel⟩
abbrev s_need_garden : Stmt := top 16
abbrev N_need_garden : List Str := ["garden"]
theorem sc_need_garden : FnScope N_need_garden ["garden"] (defScope s_need_garden) := ⟨rfl, rfl, rfl, by decide +kernel, rfl, by decide +kernel, by decide +kernel⟩
abbrev s_need_from : Stmt := top 17
abbrev N_need_from : List Str := ["thing", "least"]
theorem sc_need_from : FnScope N_need_from ["thing", "least"] (defScope s_need_from) := ⟨rfl, rfl, rfl, by decide +kernel, rfl, by decide +kernel, by decide +kernel⟩
abbrev s_tied_lengths : Stmt := top 19
abbrev N_tied_lengths : List Str := ["web", "numbers", "tail", "head", "kind"]
theorem sc_tied_lengths : FnScope N_tied_lengths ["web", "numbers"] (defScope s_tied_lengths) := ⟨rfl, rfl, rfl, by decide +kernel, rfl, by decide +kernel, by decide +kernel⟩
abbrev s_spread_sums : Stmt := top 20
abbrev N_spread_sums : List Str := ["ties", "begin", "sums", "is_moving", "one", "other", "length", "near", "far"]
theorem sc_spread_sums : FnScope N_spread_sums ["ties", "begin"] (defScope s_spread_sums) := ⟨rfl, rfl, rfl, by decide +kernel, rfl, by decide +kernel, by decide +kernel⟩
abbrev s_sums_from : Stmt := top 21
abbrev N_sums_from : List Str := ["places", "ties", "place", "here"]
theorem sc_sums_from : FnScope N_sums_from ["places", "ties", "place"] (defScope s_sums_from) := ⟨rfl, rfl, rfl, by decide +kernel, rfl, by decide +kernel, by decide +kernel⟩
abbrev s_end_rows : Stmt := top 22
abbrev N_end_rows : List Str := ["book", "n", "rows", "turn", "web"]
theorem sc_end_rows : FnScope N_end_rows ["book", "n"] (defScope s_end_rows) := ⟨rfl, rfl, rfl, by decide +kernel, rfl, by decide +kernel, by decide +kernel⟩
abbrev s_need_places : Stmt := top 23
abbrev N_need_places : List Str := ["garden", "some", "place"]
theorem sc_need_places : FnScope N_need_places ["garden", "some"] (defScope s_need_places) := ⟨rfl, rfl, rfl, by decide +kernel, rfl, by decide +kernel, by decide +kernel⟩
abbrev s_need_unlike : Stmt := top 24
abbrev N_need_unlike : List Str := ["garden", "p", "q"]
theorem sc_need_unlike : FnScope N_need_unlike ["garden", "p", "q"] (defScope s_need_unlike) := ⟨rfl, rfl, rfl, by decide +kernel, rfl, by decide +kernel, by decide +kernel⟩
abbrev s_distance_after : Stmt := top 25
abbrev N_distance_after : List Str := ["garden", "p", "q", "n", "start", "book"]
theorem sc_distance_after : FnScope N_distance_after ["garden", "p", "q", "n"] (defScope s_distance_after) := ⟨rfl, rfl, rfl, by decide +kernel, rfl, by decide +kernel, by decide +kernel⟩
abbrev s_way_by : Stmt := top 26
abbrev N_way_by : List Str := ["web", "numbers", "p", "q", "sums", "found", "here", "number", "tail", "head", "kind", "far"]
theorem sc_way_by : FnScope N_way_by ["web", "numbers", "p", "q"] (defScope s_way_by) := ⟨rfl, rfl, rfl, by decide +kernel, rfl, by decide +kernel, by decide +kernel⟩
abbrev s_heights_by : Stmt := top 27
abbrev N_heights_by : List Str := ["web", "steps", "place", "most", "sums", "item"]
theorem sc_heights_by : FnScope N_heights_by ["web", "steps", "place", "most"] (defScope s_heights_by) := ⟨rfl, rfl, rfl, by decide +kernel, rfl, by decide +kernel, by decide +kernel⟩
abbrev s_near_paper : Stmt := top 28
abbrev N_near_paper : List Str := ["garden", "p", "q", "rows", "start", "book", "tables", "numbers", "web"]
theorem sc_near_paper : FnScope N_near_paper ["garden", "p", "q", "rows"] (defScope s_near_paper) := ⟨rfl, rfl, rfl, by decide +kernel, rfl, by decide +kernel, by decide +kernel⟩
abbrev s_over_paper : Stmt := top 29
abbrev N_over_paper : List Str := ["garden", "p", "n", "d", "start", "book", "steps", "tables", "turn", "table", "web", "heights"]
theorem sc_over_paper : FnScope N_over_paper ["garden", "p", "n", "d"] (defScope s_over_paper) := ⟨rfl, rfl, rfl, by decide +kernel, rfl, by decide +kernel, by decide +kernel⟩
abbrev s_need_question : Stmt := top 30
abbrev N_need_question : List Str := ["garden", "p", "q", "n", "d"]
theorem sc_need_question : FnScope N_need_question ["garden", "p", "q", "n", "d"] (defScope s_need_question) := ⟨rfl, rfl, rfl, by decide +kernel, rfl, by decide +kernel, by decide +kernel⟩
abbrev s_judge_near : Stmt := top 31
abbrev N_judge_near : List Str := ["garden", "p", "q", "n", "d", "start", "book", "rows", "far"]
theorem sc_judge_near : FnScope N_judge_near ["garden", "p", "q", "n", "d"] (defScope s_judge_near) := ⟨rfl, rfl, rfl, by decide +kernel, rfl, by decide +kernel, by decide +kernel⟩
abbrev s_way_size : Stmt := top 32
abbrev N_way_size : List Str := ["web", "sizes", "thing", "p", "q", "found", "met", "number", "tail", "head", "kind"]
theorem sc_way_size : FnScope N_way_size ["web", "sizes", "thing", "p", "q"] (defScope s_way_size) := ⟨rfl, rfl, rfl, by decide +kernel, rfl, by decide +kernel, by decide +kernel⟩
abbrev s_are_tables : Stmt := top 33
abbrev N_are_tables : List Str := ["book", "n", "thing", "table"]
theorem sc_are_tables : FnScope N_are_tables ["book", "n", "thing"] (defScope s_are_tables) := ⟨rfl, rfl, rfl, by decide +kernel, rfl, by decide +kernel, by decide +kernel⟩
abbrev s_is_near : Stmt := top 34
abbrev N_is_near : List Str := ["garden", "p", "q", "d", "tables", "way", "start", "book", "sizes", "table", "made", "found", "web", "item", "size"]
theorem sc_is_near : FnScope N_is_near ["garden", "p", "q", "d", "tables", "way"] (defScope s_is_near) := ⟨rfl, rfl, rfl, by decide +kernel, rfl, by decide +kernel, by decide +kernel⟩
abbrev s_are_heights : Stmt := top 35
abbrev N_are_heights : List Str := ["web", "steps", "thing", "item", "tail", "head", "kind"]
theorem sc_are_heights : FnScope N_are_heights ["web", "steps", "thing"] (defScope s_are_heights) := ⟨rfl, rfl, rfl, by decide +kernel, rfl, by decide +kernel, by decide +kernel⟩
abbrev s_is_over : Stmt := top 36
abbrev N_is_over : List Str := ["garden", "p", "q", "d", "tables", "heights", "start", "book", "steps", "table", "web", "item"]
theorem sc_is_over : FnScope N_is_over ["garden", "p", "q", "d", "tables", "heights"] (defScope s_is_over) := ⟨rfl, rfl, rfl, by decide +kernel, rfl, by decide +kernel, by decide +kernel⟩
abbrev s_near_holds : Stmt := top 37
abbrev N_near_holds : List Str := ["garden", "p", "q", "n", "d", "thing"]
theorem sc_near_holds : FnScope N_near_holds ["garden", "p", "q", "n", "d", "thing"] (defScope s_near_holds) := ⟨rfl, rfl, rfl, by decide +kernel, rfl, by decide +kernel, by decide +kernel⟩
abbrev s_law_deck : Stmt := top 39
abbrev N_law_deck : List Str := ["_law_script", "_law_mixed", "_law_cell"]
theorem sc_law_deck : FnScope N_law_deck ["_law_script"] (defScope s_law_deck) := ⟨rfl, rfl, rfl, by decide +kernel, rfl, by decide +kernel, by decide +kernel⟩
abbrev s_law_draw : Stmt := top 40
abbrev N_law_draw : List Str := ["_law_deck_here", "_law_below", "_law_figure", "_law_cell"]
theorem sc_law_draw : FnScope N_law_draw ["_law_deck_here", "_law_below"] (defScope s_law_draw) := ⟨rfl, rfl, rfl, by decide +kernel, rfl, by decide +kernel, by decide +kernel⟩
abbrev s_law_pick : Stmt := top 41
abbrev N_law_pick : List Str := ["_law_deck_here", "_law_some"]
theorem sc_law_pick : FnScope N_law_pick ["_law_deck_here", "_law_some"] (defScope s_law_pick) := ⟨rfl, rfl, rfl, by decide +kernel, rfl, by decide +kernel, by decide +kernel⟩
abbrev s_law_tie : Stmt := top 42
abbrev N_law_tie : List Str := ["_law_deck_here", "_law_a", "_law_b", "_law_kinds"]
theorem sc_law_tie : FnScope N_law_tie ["_law_deck_here", "_law_a", "_law_b", "_law_kinds"] (defScope s_law_tie) := ⟨rfl, rfl, rfl, by decide +kernel, rfl, by decide +kernel, by decide +kernel⟩
abbrev s_law_further : Stmt := top 43
abbrev N_law_further : List Str := ["_law_deck_here", "_law_many", "_law_kinds", "_law_a"]
theorem sc_law_further : FnScope N_law_further ["_law_deck_here", "_law_many", "_law_kinds"] (defScope s_law_further) := ⟨rfl, rfl, rfl, by decide +kernel, rfl, by decide +kernel, by decide +kernel⟩
abbrev s_law_growth : Stmt := top 44
abbrev N_law_growth : List Str := ["_law_deck_here", "_law_kinds", "_law_many", "_law_way", "_law_ties", "_law_go", "_law_left", "_law_at", "_law_turn", "_law_to"]
theorem sc_law_growth : FnScope N_law_growth ["_law_deck_here", "_law_kinds"] (defScope s_law_growth) := ⟨rfl, rfl, rfl, by decide +kernel, rfl, by decide +kernel, by decide +kernel⟩
abbrev s_law_start : Stmt := top 45
abbrev N_law_start : List Str := ["_law_deck_here", "_law_kinds", "_law_many", "_law_ties", "_law_at", "_law_go"]
theorem sc_law_start : FnScope N_law_start ["_law_deck_here", "_law_kinds"] (defScope s_law_start) := ⟨rfl, rfl, rfl, by decide +kernel, rfl, by decide +kernel, by decide +kernel⟩
abbrev s_law_is_integer : Stmt := top 46
abbrev N_law_is_integer : List Str := ["_law_thing"]
theorem sc_law_is_integer : FnScope N_law_is_integer ["_law_thing"] (defScope s_law_is_integer) := ⟨rfl, rfl, rfl, by decide +kernel, rfl, by decide +kernel, by decide +kernel⟩
abbrev s_law_are_integers : Stmt := top 47
abbrev N_law_are_integers : List Str := ["_law_thing", "_law_it"]
theorem sc_law_are_integers : FnScope N_law_are_integers ["_law_thing"] (defScope s_law_are_integers) := ⟨rfl, rfl, rfl, by decide +kernel, rfl, by decide +kernel, by decide +kernel⟩
abbrev s_law_way_sum : Stmt := top 48
abbrev N_law_way_sum : List Str := ["_law_web", "_law_way", "_law_at", "_law_to", "_law_sizes", "_law_met", "_law_total", "_law_number", "_law_a", "_law_b", "_law_c"]
theorem sc_law_way_sum : FnScope N_law_way_sum ["_law_web", "_law_way", "_law_at", "_law_to", "_law_sizes"] (defScope s_law_way_sum) := ⟨rfl, rfl, rfl, by decide +kernel, rfl, by decide +kernel, by decide +kernel⟩
abbrev s_law_is_flat : Stmt := top 49
abbrev N_law_is_flat : List Str := ["_law_web", "_law_heights_here", "_law_steps", "_law_a", "_law_b", "_law_c"]
theorem sc_law_is_flat : FnScope N_law_is_flat ["_law_web", "_law_heights_here", "_law_steps"] (defScope s_law_is_flat) := ⟨rfl, rfl, rfl, by decide +kernel, rfl, by decide +kernel, by decide +kernel⟩
abbrev s_law_is_near : Stmt := top 50
abbrev N_law_is_near : List Str := ["_law_garden", "_law_p", "_law_q", "_law_d", "_law_tables", "_law_way", "_law_sizes", "_law_table", "_law_later", "_law_total", "_law_growth_here", "_law_it", "_law_size"]
theorem sc_law_is_near : FnScope N_law_is_near ["_law_garden", "_law_p", "_law_q", "_law_d", "_law_tables", "_law_way"] (defScope s_law_is_near) := ⟨rfl, rfl, rfl, by decide +kernel, rfl, by decide +kernel, by decide +kernel⟩
abbrev s_law_is_over : Stmt := top 51
abbrev N_law_is_over : List Str := ["_law_garden", "_law_p", "_law_q", "_law_d", "_law_tables", "_law_heights_here", "_law_steps", "_law_table", "_law_growth_here", "_law_it"]
theorem sc_law_is_over : FnScope N_law_is_over ["_law_garden", "_law_p", "_law_q", "_law_d", "_law_tables", "_law_heights_here"] (defScope s_law_is_over) := ⟨rfl, rfl, rfl, by decide +kernel, rfl, by decide +kernel, by decide +kernel⟩
abbrev s_law_is_certificate : Stmt := top 52
abbrev N_law_is_certificate : List Str := ["_law_garden", "_law_p", "_law_q", "_law_n", "_law_d", "_law_thing"]
theorem sc_law_is_certificate : FnScope N_law_is_certificate ["_law_garden", "_law_p", "_law_q", "_law_n", "_law_d", "_law_thing"] (defScope s_law_is_certificate) := ⟨rfl, rfl, rfl, by decide +kernel, rfl, by decide +kernel, by decide +kernel⟩
abbrev s_law_sums : Stmt := top 53
abbrev N_law_sums : List Str := ["_law_web", "_law_sizes", "_law_begin", "_law_found", "_law_go", "_law_before", "_law_a", "_law_b", "_law_c", "_law_x", "_law_y"]
theorem sc_law_sums : FnScope N_law_sums ["_law_web", "_law_sizes", "_law_begin"] (defScope s_law_sums) := ⟨rfl, rfl, rfl, by decide +kernel, rfl, by decide +kernel, by decide +kernel⟩
abbrev s_law_distance : Stmt := top 54
abbrev N_law_distance : List Str := ["_law_garden", "_law_p", "_law_q", "_law_n", "_law_sizes", "_law_go", "_law_growth_here"]
theorem sc_law_distance : FnScope N_law_distance ["_law_garden", "_law_p", "_law_q", "_law_n"] (defScope s_law_distance) := ⟨rfl, rfl, rfl, by decide +kernel, rfl, by decide +kernel, by decide +kernel⟩
abbrev s_law_some_way : Stmt := top 55
abbrev N_law_some_way : List Str := ["_law_deck_here", "_law_web", "_law_sizes", "_law_p", "_law_q", "_law_turn", "_law_ways", "_law_edge", "_law_numbers", "_law_go", "_law_later", "_law_at", "_law_number", "_law_a", "_law_b", "_law_c", "_law_to"]
theorem sc_law_some_way : FnScope N_law_some_way ["_law_deck_here", "_law_web", "_law_sizes", "_law_p", "_law_q"] (defScope s_law_some_way) := ⟨rfl, rfl, rfl, by decide +kernel, rfl, by decide +kernel, by decide +kernel⟩
abbrev s_law_own_near : Stmt := top 56
abbrev N_law_own_near : List Str := ["_law_deck_here", "_law_garden", "_law_p", "_law_q", "_law_n", "_law_sizes", "_law_tables", "_law_go", "_law_table", "_law_pairs", "_law_way", "_law_growth_here", "_law_it"]
theorem sc_law_own_near : FnScope N_law_own_near ["_law_deck_here", "_law_garden", "_law_p", "_law_q", "_law_n"] (defScope s_law_own_near) := ⟨rfl, rfl, rfl, by decide +kernel, rfl, by decide +kernel, by decide +kernel⟩
abbrev s_law_heights : Stmt := top 57
abbrev N_law_heights : List Str := ["_law_deck_here", "_law_web", "_law_steps", "_law_p", "_law_q", "_law_found", "_law_top", "_law_low", "_law_at"]
theorem sc_law_heights : FnScope N_law_heights ["_law_deck_here", "_law_web", "_law_steps", "_law_p", "_law_q"] (defScope s_law_heights) := ⟨rfl, rfl, rfl, by decide +kernel, rfl, by decide +kernel, by decide +kernel⟩
abbrev s_law_own_over : Stmt := top 58
abbrev N_law_own_over : List Str := ["_law_deck_here", "_law_garden", "_law_p", "_law_q", "_law_n", "_law_steps", "_law_tables", "_law_go", "_law_table", "_law_growth_here", "_law_it"]
theorem sc_law_own_over : FnScope N_law_own_over ["_law_deck_here", "_law_garden", "_law_p", "_law_q", "_law_n"] (defScope s_law_own_over) := ⟨rfl, rfl, rfl, by decide +kernel, rfl, by decide +kernel, by decide +kernel⟩
abbrev s_law_level : Stmt := top 59
abbrev N_law_level : List Str := ["_law_web", "_law_heights_here", "_law_p", "_law_q", "_law_found", "_law_high", "_law_at"]
theorem sc_law_level : FnScope N_law_level ["_law_web", "_law_heights_here", "_law_p", "_law_q"] (defScope s_law_level) := ⟨rfl, rfl, rfl, by decide +kernel, rfl, by decide +kernel, by decide +kernel⟩
abbrev s_law_is_told_right : Stmt := top 60
abbrev N_law_is_told_right : List Str := ["_law_deck_here", "_law_garden", "_law_p", "_law_q", "_law_n", "_law_d", "_law_distance_here", "_law_told"]
theorem sc_law_is_told_right : FnScope N_law_is_told_right ["_law_deck_here", "_law_garden", "_law_p", "_law_q", "_law_n", "_law_d", "_law_distance_here"] (defScope s_law_is_told_right) := ⟨rfl, rfl, rfl, by decide +kernel, rfl, by decide +kernel, by decide +kernel⟩
abbrev s_law_are_own_right : Stmt := top 61
abbrev N_law_are_own_right : List Str := ["_law_deck_here", "_law_garden", "_law_p", "_law_q", "_law_n", "_law_own", "_law_thing", "_law_most", "_law_tables", "_law_heights_here", "_law_d", "_law_is_due", "_law_it"]
theorem sc_law_are_own_right : FnScope N_law_are_own_right ["_law_deck_here", "_law_garden", "_law_p", "_law_q", "_law_n"] (defScope s_law_are_own_right) := ⟨rfl, rfl, rfl, by decide +kernel, rfl, by decide +kernel, by decide +kernel⟩
abbrev s_law : Stmt := top 62
abbrev N_law : List Str := ["_law_script", "_law_deck_here", "_law_go", "_law_kinds", "_law_garden", "_law_p", "_law_n", "_law_q", "_law_distance_here", "_law_some", "_law_d", "_law_c"]
theorem sc_law : FnScope N_law ["_law_script"] (defScope s_law) := ⟨rfl, rfl, rfl, by decide +kernel, rfl, by decide +kernel, by decide +kernel⟩
/-! ### data -/
abbrev dN (n : Nat) : Dat := .int (n : Int)
def dWeb (W : Web) : Dat := .tup [dN W.n, .tup (W.ts.map dTie)]
def dBook (b : List Web) : Dat := .tup (b.map dWeb)
def dGarden (s : Web) (b : List Web) : Dat := .tup [dWeb s, dBook b]
def dOpt : Option Int → Dat
  | none => .non
  | some i => .int i
def dRow (r : Row) : Dat := .tup (r.map dOpt)
def dEdge (e : Edge) : Dat := .tup [dN e.1, dN e.2.1, .int e.2.2]
/-- the list of sums of a web: by places -/
def sumsL (n : Nat) (f : Nat → Option Int) : List Dat := (List.range n).map fun v => dOpt (f v)
theorem ixN_nat {n j : Nat} (h : j < n) : ixN n (j : Int) = some j := by
  unfold ixN
  rw [if_pos (by omega), if_pos (by omega)]; simp
theorem atI_of {ds : List Dat} {j : Nat} {d : Dat} (h : ds[j]? = some d) : atI ds (j : Int) = some d := L2.atI_nat h
theorem atI_map {α : Type} {f : α → Dat} {xs : List α} {j : Nat} {x : α} (h : xs[j]? = some x) : atI (xs.map f) (j : Int) = some (f x) := atI_of (by rw [List.getElem?_map, h]; rfl)
theorem atI_sums {n j : Nat} {f : Nat → Option Int} (h : j < n) : atI (sumsL n f) (j : Int) = some (dOpt (f j)) := atI_map (List.getElem?_range h)
theorem row_get {r : Row} {c : Nat} (h : c < r.length) : r[c]? = some (r.at c) := by
  unfold Row.at
  rw [List.getD_eq_getElem?_getD, List.getElem?_eq_getElem h]
  rfl
theorem atI_row {r : Row} {c : Nat} (h : c < r.length) : atI (r.map dOpt) (c : Int) = some (dOpt (r.at c)) := atI_map (row_get h)
/-- an if whose test is known -/
theorem s_ifF {F : Fr} {X : Cx} {ρ : Env1} {D : DE} {t : Expr} {sa sb : List Stmt} {pos : Pos} (h : EvT F X t ρ false) (hb : SS F X sb ρ D) : S1 F X (.If t sa sb pos) ρ D := s_if (h.then ⟨fun e => (nomatch e), fun _ => hb⟩)
theorem s_ifT {F : Fr} {X : Cx} {ρ : Env1} {D : DE} {t : Expr} {sa sb : List Stmt} {pos : Pos} (h : EvT F X t ρ true) (ha : SS F X sa ρ D) : S1 F X (.If t sa sb pos) ρ D := s_if (h.then ⟨fun _ => ha, fun e => (nomatch e)⟩)
theorem isNon_opt (o : Option Int) : isNon (.d (dOpt o)) = o.isNone := by cases o <;> rfl
end Md
end P0Part
section P1Part
set_option Elab.async false
set_option linter.all false
set_option maxRecDepth 100000
set_option maxHeartbeats 2000000
/-! looks.py -/
namespace Md
open PySem L2
def sp_is_integer : Spec := fun ws Φ => ∃ i : Int, ws = [.d (.int i)] ∧ Φ (.d (.bl true))
def sp_is_between : Spec := fun ws Φ => ∃ i l m : Int, ws = [.d (.int i), .d (.int l), .d (.int m)] ∧ Φ (.d (.bl (decide (l ≤ i) && decide (i ≤ m))))
def sp_is_place : Spec := fun ws Φ => ∃ (W : Web) (p : Nat), ws = [.d (dWeb W), .d (dN p)] ∧ p < W.n ∧ Φ (.d (.bl true))
def TieOk (n : Nat) (k : Nat) (t : Tie) : Prop := t.1 < n ∧ t.2.1 < n ∧ t.1 ≠ t.2.1 ∧ t.2.2 < k
def sp_is_tie : Spec := fun ws Φ => ∃ (n : Nat) (t : Tie), ws = [.d (dN n), .d (dTie t)] ∧ TieOk n 3 t ∧ Φ (.d (.bl true))
def sp_is_web_value : Spec := fun ws Φ => ∃ (W : Web) (k : Nat), ws = [.d (dWeb W)] ∧ W.Ok k ∧ k ≤ 3 ∧ Φ (.d (.bl true))
def sp_has_kinds_below : Spec := fun ws Φ => ∃ (W : Web) (k : Nat), ws = [.d (dWeb W), .d (dN k)] ∧ W.Ok k ∧ Φ (.d (.bl true))
def sp_is_growth_value : Spec := fun ws Φ => ∃ (W : Web) (k : Nat), ws = [.d (dWeb W)] ∧ W.Ok k ∧ k ≤ 3 ∧ 2 ≤ W.n ∧ Φ (.d (.bl true))
def sp_is_book_value : Spec := fun ws Φ => ∃ b : List Web, ws = [.d (dBook b)] ∧ BookOk b ∧ Φ (.d (.bl true))
def sp_is_garden_value : Spec := fun ws Φ => ∃ (s : Web) (b : List Web), ws = [.d (dGarden s b)] ∧ GardenOk s b ∧ Φ (.d (.bl true))
def sp_need_garden : Spec := fun ws Φ => ∃ (s : Web) (b : List Web), ws = [.d (dGarden s b)] ∧ GardenOk s b ∧ Φ (.d .non)
def sp_need_from : Spec := fun ws Φ => ∃ i l : Int, ws = [.d (.int i), .d (.int l)] ∧ l ≤ i ∧ Φ (.d .non)
section
variable {P : Program} {w : World} {K : PySem.W.Frag} {mg : Str → Option Value} {base : Heap} {f : Addr} {fd : FuncData}
theorem ok_is_integer (F : Fun K "is_integer" "is_integer" s_is_integer f fd) (B : Bt mg) : FnOk P w K mg base CX0 1 f fd ["thing"] (spD CP sp_is_integer) := by
  refine fnD F sc_is_integer (by decide) (fun ws Φ ⟨i, h, _⟩ => by rw [h]; rfl) fun cdv A outer s H E G ws Φ hC hr hS => ?_
  obtain ⟨i, rfl, hΦ⟩ := hS
  refine ss_one (s_ret ?_)
  refine Ev.then (ev_and2 (ev_isinst rfl B.isinstance rfl B.int (vd (i := 0) rfl rfl) rfl rfl) fun _ => ev_not (ev_isinst rfl B.isinstance rfl B.bool (vd (i := 0) rfl rfl) rfl rfl)) hΦ
theorem ok_is_between (F : Fun K "is_between" "is_between" s_is_between f fd) (B : Bt mg) (h1 : HasFn P w K mg base "is_integer" 1 (spD CP sp_is_integer)) : FnOk P w K mg base CX0 2 f fd ["thing", "least", "most"] (spD CP sp_is_between) := by
  refine fnD F sc_is_between (by decide) (fun ws Φ ⟨i, l, m, h, _⟩ => by rw [h]; rfl) fun cdv A outer s H E G ws Φ hC hr hS => ?_
  obtain ⟨i, l, m, rfl, hΦ⟩ := hS
  refine ss_one (s_ret ?_)
  refine Ev.then (ev_and2 (ev_call0 h1 hr rfl (eva_cons (vd (i := 0) rfl rfl) eva_nil) ⟨i, rfl, rfl, (fun z => nomatch z), rfl⟩) fun _ => ev_leLe (vd (i := 1) rfl rfl) (vd (i := 0) rfl rfl) (vd (i := 2) rfl rfl)) ?_
  exact hΦ
theorem ok_is_place (F : Fun K "is_place" "is_place" s_is_place f fd) (B : Bt mg) (h_is_between : HasFn P w K mg base "is_between" 2 (spD CP sp_is_between)) : FnOk P w K mg base CX0 3 f fd ["web", "thing"] (spD CP sp_is_place) := by
  refine fnD F sc_is_place (by decide) (fun ws Φ ⟨i, l, h, _⟩ => by rw [h]; rfl) fun cdv A outer s H E G ws Φ hC hr hS => ?_
  obtain ⟨W, p, rfl, hp, hΦ⟩ := hS
  refine ss_one (s_ret ?_)
  refine Ev.then (w := .d (.bl true)) (ev_call0 h_is_between (hr.mono (by decide)) rfl (eva_cons (vd (i := 1) rfl rfl) (eva_cons ev_int (eva_cons (ev_sub (ev_ix (vd (i := 0) rfl rfl) ev_int rfl rfl) ev_int) eva_nil))) ⟨_, _, _, rfl, rfl, (fun z => nomatch z), ?_⟩) hΦ
  simp; omega
theorem ok_is_tie (F : Fun K "is_tie" "is_tie" s_is_tie f fd) (B : Bt mg) (h_is_between : HasFn P w K mg base "is_between" 2 (spD CP sp_is_between)) : FnOk P w K mg base CX0 3 f fd ["places", "thing"] (spD CP sp_is_tie) := by
  refine fnD F sc_is_tie (by decide) (fun ws Φ ⟨i, l, h, _⟩ => by rw [h]; rfl) fun cdv A outer s H E G ws Φ hC hr hS => ?_
  obtain ⟨n, t, rfl, ⟨h1, h2, h3, h4⟩, hΦ⟩ := hS
  obtain ⟨kt, hK⟩ := B.kinds
  refine ss_cons (s_ifF (EvT.is (evT_or3 (evT_not (evT_val (ev_isinst rfl B.isinstance rfl B.tuple (vd (i := 1) rfl rfl) rfl rfl))) (fun _ => (et_neI (ev_len rfl B.len (vd (i := 1) rfl rfl) rfl) ev_int))
    (fun _ _ => (evT_not (evT_val (ev_call0 (w := .d (.bl true)) h_is_between (hr.mono (by decide)) rfl (eva_cons (ev_ix (vd (i := 1) rfl rfl) ev_int rfl rfl) (eva_cons ev_int (eva_cons (ev_sub (ev_glob rfl hK) ev_int) eva_nil))) ⟨_, _, _, rfl, rfl, (fun z => nomatch z), ?_⟩))))) rfl) (ss_nil ?_))
  · simp; omega
  refine ss_one (s_ret ?_)
  refine Ev.then (ev_and3 (ev_call0 (w := .d (.bl true)) h_is_between (hr.mono (by decide)) rfl (eva_cons (ev_ix (vd (i := 1) rfl rfl) ev_int rfl rfl) (eva_cons ev_int (eva_cons (ev_sub (vd (i := 0) rfl rfl) ev_int) eva_nil))) ⟨_, _, _, rfl, rfl, (fun z => nomatch z), ?_⟩)
    (fun _ => (ev_call0 (w := .d (.bl true)) h_is_between (hr.mono (by decide)) rfl (eva_cons (ev_ix (vd (i := 1) rfl rfl) ev_int rfl rfl) (eva_cons ev_int (eva_cons (ev_sub (vd (i := 0) rfl rfl) ev_int) eva_nil))) ⟨_, _, _, rfl, rfl, (fun z => nomatch z), ?_⟩))
    (fun _ _ => (ev_neI (ev_ix (vd (i := 1) rfl rfl) ev_int rfl rfl) (ev_ix (vd (i := 1) rfl rfl) ev_int rfl rfl)))) ?_
  · simp; omega
  · simp; omega
  · have e : (!decide ((t.1 : Int) = (t.2.1 : Int))) = true := by simp; omega
    show Φ (.d (.bl (true && (true && (!decide ((t.1 : Int) = (t.2.1 : Int)))))))
    rw [e]
    exact hΦ
theorem ok_has_kinds_below (F : Fun K "has_kinds_below" "has_kinds_below" s_has_kinds_below f fd) (B : Bt mg) : FnOk P w K mg base CX0 1 f fd ["web", "many"] (spD CP sp_has_kinds_below) := by
  refine fnD F sc_has_kinds_below (by decide) (fun ws Φ ⟨i, l, h, _⟩ => by rw [h]; rfl) fun cdv A outer s H E G ws Φ hC hr hS => ?_
  obtain ⟨W, k, rfl, ok, hΦ⟩ := hS
  refine ss_one (s_ret (ec_all rfl rfl B.all ?_))
  refine ec_lc (own := [("tie", 2)]) W.ts dTie (fun t r => r = some (.bl true)) pat_name rfl (sc_has_kinds_below).nd (blkOk_by (N := N_has_kinds_below) (sc := defScope s_has_kinds_below) (by decide +kernel)) (by simp) (Nat.le_trans ok.few (by decide)) (fun s H C cl fp => pg_name (i := 2) (sc_has_kinds_below).nd rfl (.inl rfl))
    (ei_tup (Ev.then (ev_ix (vd (i := 0) rfl rfl) ev_int rfl rfl) ⟨_, rfl, rfl⟩)) (fun t ht => ⟨_, rfl, fun s H C cl fp => ets_nil ⟨fun _ s H C cl fp => ?_, fun e => nomatch e⟩⟩) fun out ho => ?_
  · refine Ev.then (ev_lt (ev_ix (vd (i := 2) rfl rfl) ev_int rfl rfl) (vd (i := 1) rfl rfl)) ⟨_, rfl, ?_⟩
    have := (ok.ties t ht).2.2.2
    simp; omega
  · have := outs_map (f := fun _ : Tie => Dat.bl true) ho
    refine ⟨true, W.ts.map (fun _ => true), by rw [this, List.map_map]; rfl, ?_⟩
    have e : (W.ts.map (fun _ => true)).all id = true := by simp
    rw [e]
    exact hΦ
end
end Md
end P1Part
section P1bPart
set_option Elab.async false
set_option linter.all false
set_option maxRecDepth 100000
set_option maxHeartbeats 2000000
namespace Md
open PySem L2
section
variable {P : Program} {w : World} {K : PySem.W.Frag} {mg : Str → Option Value} {base : Heap} {f : Addr} {fd : FuncData}
theorem small_of {W : Web} {k : Nat} (ok : W.Ok k) (hk : k ≤ 3) : ∀ t, t ∈ W.ts → Small t := fun t ht => by
  obtain ⟨h1, h2, h3, h4⟩ := ok.ties t ht
  have := ok.small
  exact ⟨by omega, by omega, by omega⟩
theorem ok_is_web_value (F : Fun K "is_web_value" "is_web_value" s_is_web_value f fd) (B : Bt mg) (h_is_integer : HasFn P w K mg base "is_integer" 1 (spD CP sp_is_integer)) (h_is_tie : HasFn P w K mg base "is_tie" 3 (spD CP sp_is_tie)) :
    FnOk P w K mg base CX0 4 f fd ["thing"] (spD CP sp_is_web_value) := by
  refine fnD F sc_is_web_value (by decide) (fun ws Φ ⟨i, l, h, _⟩ => by rw [h]; rfl) fun cdv A outer s H E G ws Φ hC hr hS => ?_
  obtain ⟨W, k, rfl, ok, hk, hΦ⟩ := hS
  have hu : (bx P w K mg base N_is_web_value "is_web_value" s_is_web_value f cdv A outer s H E).A.units + 64 < cLine := hr.units
  refine ss_cons (s_ifF (EvT.is (evT_or4 (evT_not (evT_val (ev_isinst rfl B.isinstance rfl B.tuple (vd (i := 0) rfl rfl) rfl rfl))) (fun _ => (et_neI (ev_len rfl B.len (vd (i := 0) rfl rfl) rfl) ev_int)) (fun _ _ => (evT_not (evT_val (ev_call0 (w := .d (.bl true)) h_is_integer (hr.mono (by decide)) rfl (eva_cons (ev_ix (vd (i := 0) rfl rfl) ev_int rfl rfl) eva_nil) ⟨_, rfl, rfl, (fun z => nomatch z), rfl⟩)))) (fun _ _ _ => (et_lt (ev_ix (vd (i := 0) rfl rfl) ev_int rfl rfl) ev_int))) ?_) (ss_nil ?_))
  · have := ok.one
    show (false || (false || (false || decide ((W.n : Int) < 1)))) = false
    simp; omega
  refine ss_cons (s_ifF (EvT.is (evT_or2 (q := false) (evT_not (evT_val (ev_isinst rfl B.isinstance rfl B.tuple (ev_ix (vd (i := 0) rfl rfl) ev_int rfl rfl) rfl rfl))) (fun _ => ?_)) rfl) (ss_nil ?_))
  · refine EvT.is (evT_not (p := true) (evT_val (ec_all rfl rfl B.all ?_))) rfl
    refine ec_lc (own := [("tie", 1)]) W.ts dTie (fun t r => r = some (.bl true)) pat_name rfl (sc_is_web_value).nd (blkOk_by (N := N_is_web_value) (sc := defScope s_is_web_value) (by decide +kernel)) (by simp) (Nat.le_trans ok.few (by decide)) (fun s H C cl fp => pg_name (i := 1) (sc_is_web_value).nd rfl (.inl rfl))
      (ei_tup (Ev.then (ev_ix (vd (i := 0) rfl rfl) ev_int rfl rfl) ⟨_, rfl, rfl⟩)) (fun t ht => ⟨_, rfl, fun s H C cl fp => ets_nil ⟨fun _ s H C cl fp => ?_, fun e => nomatch e⟩⟩) fun out ho => ?_
    · refine Ev.then (w := .d (.bl true)) (ev_call0 h_is_tie (hr.mono (by decide)) rfl (eva_cons (ev_ix (vd (i := 0) rfl rfl) ev_int rfl rfl) (eva_cons (vd (i := 1) rfl rfl) eva_nil)) ⟨_, t, rfl, ?_, rfl, (fun z => nomatch z), rfl⟩) ⟨_, rfl, rfl⟩
      obtain ⟨h1, h2, h3, h4⟩ := ok.ties t ht
      exact ⟨h1, h2, h3, by omega⟩
    · have := outs_map (f := fun _ : Tie => Dat.bl true) ho
      refine ⟨true, W.ts.map (fun _ => true), by rw [this, List.map_map]; rfl, ?_⟩
      simp
  · refine ss_one (s_ret ?_)
    refine ec_eqL hu (Ev.then (ev_list rfl B.list (ev_ix (vd (i := 0) rfl rfl) ev_int rfl rfl) rfl) ⟨_, _, rfl, ?_⟩)
    refine ec_sorted rfl B.sorted (Ev.then (ev_ix (vd (i := 0) rfl rfl) ev_int rfl rfl) ⟨W.ts, rfl, Nat.lt_of_le_of_lt ok.few (by decide), small_of ok hk, fun ts' hp hs => ⟨_, _, rfl, shaped_ties _, shaped_ties _, ?_⟩⟩)
    rw [sorted_unique hp (small_of ok hk) ok.sorted hs, PySem.SeqAt.eqv_refl _ (by simp [PyData.canLay0, canLay_ties])]
    exact hΦ
theorem ok_is_growth_value (F : Fun K "is_growth_value" "is_growth_value" s_is_growth_value f fd) (B : Bt mg) (h_is_web_value : HasFn P w K mg base "is_web_value" 4 (spD CP sp_is_web_value)) : FnOk P w K mg base CX0 5 f fd ["thing"] (spD CP sp_is_growth_value) := by
  refine fnD F sc_is_growth_value (by decide) (fun ws Φ ⟨i, l, h, _⟩ => by rw [h]; rfl) fun cdv A outer s H E G ws Φ hC hr hS => ?_
  obtain ⟨W, k, rfl, ok, hk, h2, hΦ⟩ := hS
  refine ss_one (s_ret (Ev.then (Ev.is (ev_and2 (ev_call0 (w := .d (.bl true)) h_is_web_value (hr.mono (by decide)) rfl (eva_cons (vd (i := 0) rfl rfl) eva_nil) ⟨W, k, rfl, ok, hk, rfl, (fun z => nomatch z), rfl⟩) (fun _ => ev_ge (ev_ix (vd (i := 0) rfl rfl) ev_int rfl rfl) ev_int)) (u := .d (.bl true)) ?_) hΦ))
  show Md.W.d (.bl (true && decide ((2 : Int) ≤ (W.n : Int)))) = _
  simp; omega
theorem ok_is_book_value (F : Fun K "is_book_value" "is_book_value" s_is_book_value f fd) (B : Bt mg) (h_is_growth_value : HasFn P w K mg base "is_growth_value" 5 (spD CP sp_is_growth_value)) (h_has_kinds_below : HasFn P w K mg base "has_kinds_below" 1 (spD CP sp_has_kinds_below)) :
    FnOk P w K mg base CX0 6 f fd ["thing"] (spD CP sp_is_book_value) := by
  refine fnD F sc_is_book_value (by decide) (fun ws Φ ⟨i, h, _⟩ => by rw [h]; rfl) fun cdv A outer s H E G ws Φ hC hr hS => ?_
  obtain ⟨b, rfl, ok, hΦ⟩ := hS
  obtain ⟨kt, hK⟩ := B.kinds
  refine ss_cons (s_ifF (EvT.is (evT_or2 (evT_not (evT_val (ev_isinst rfl B.isinstance rfl B.tuple (vd (i := 0) rfl rfl) rfl rfl))) (fun _ => (evT_not (et_leLe ev_int (ev_len rfl B.len (vd (i := 0) rfl rfl) rfl) (ev_glob rfl hK))))) ?_) (ss_nil ?_))
  · have h1 := ok.one
    have h3 := ok.three
    show (false || !(decide ((1 : Int) ≤ ((b.map dWeb).length : Int)) && decide (((b.map dWeb).length : Int) ≤ 3))) = false
    rw [List.length_map]
    simp; omega
  refine ss_one (s_ret (ec_all rfl rfl B.all ?_))
  refine ec_lc (own := [("growth", 1)]) b dWeb (fun t r => r = some (.bl true)) pat_name rfl (sc_is_book_value).nd (blkOk_by (N := N_is_book_value) (sc := defScope s_is_book_value) (by decide +kernel)) (by simp) (Nat.le_trans ok.three (by decide)) (fun s H C cl fp => pg_name (i := 1) (sc_is_book_value).nd rfl (.inl rfl))
    (ei_tup (Ev.then (vd (i := 0) rfl rfl) ⟨_, rfl, rfl⟩)) (fun g hg => ⟨_, rfl, fun s H C cl fp => ets_nil ⟨fun _ s H C cl fp => ?_, fun e => nomatch e⟩⟩) fun out ho => ?_
  · obtain ⟨gok, g2⟩ := ok.each g hg
    refine Ev.then (ev_and2 (ev_call0 (w := .d (.bl true)) h_is_growth_value (hr.mono (by decide)) rfl (eva_cons (vd (i := 1) rfl rfl) eva_nil) ⟨g, _, rfl, gok, ok.three, g2, rfl, (fun z => nomatch z), rfl⟩)
      (fun _ => (ev_call0 (w := .d (.bl true)) h_has_kinds_below (hr.mono (by decide)) rfl (eva_cons (vd (i := 1) rfl rfl) (eva_cons (ev_len rfl B.len (vd (i := 0) rfl rfl) rfl) eva_nil)) ⟨g, b.length, by rw [List.length_map]; rfl, gok, rfl, (fun z => nomatch z), rfl⟩))) ⟨_, rfl, rfl⟩
  · have := outs_map (f := fun _ : Web => Dat.bl true) ho
    refine ⟨true, b.map (fun _ => true), by rw [this, List.map_map]; rfl, ?_⟩
    have e : (b.map (fun _ => true)).all id = true := by simp
    rw [e]
    exact hΦ
theorem ok_is_garden_value (F : Fun K "is_garden_value" "is_garden_value" s_is_garden_value f fd) (B : Bt mg) (h_is_web_value : HasFn P w K mg base "is_web_value" 4 (spD CP sp_is_web_value)) (h_is_book_value : HasFn P w K mg base "is_book_value" 6 (spD CP sp_is_book_value)) (h_has_kinds_below : HasFn P w K mg base "has_kinds_below" 1 (spD CP sp_has_kinds_below)) :
    FnOk P w K mg base CX0 7 f fd ["thing"] (spD CP sp_is_garden_value) := by
  refine fnD F sc_is_garden_value (by decide) (fun ws Φ ⟨i, l, h, _⟩ => by rw [h]; rfl) fun cdv A outer s H E G ws Φ hC hr hS => ?_
  obtain ⟨st, b, rfl, ok, hΦ⟩ := hS
  refine ss_cons (s_ifF (EvT.is (evT_or4 (evT_not (evT_val (ev_isinst rfl B.isinstance rfl B.tuple (vd (i := 0) rfl rfl) rfl rfl))) (fun _ => (et_neI (ev_len rfl B.len (vd (i := 0) rfl rfl) rfl) ev_int)) (fun _ _ => (evT_not (evT_val (ev_call0 (w := .d (.bl true)) h_is_web_value (hr.mono (by decide)) rfl (eva_cons (ev_ix (vd (i := 0) rfl rfl) ev_int rfl rfl) eva_nil) ⟨st, _, rfl, ok.start, ok.book.three, rfl, (fun z => nomatch z), rfl⟩))))
    (fun _ _ _ => (evT_not (evT_val (ev_call0 (w := .d (.bl true)) h_is_book_value (hr.mono (by decide)) rfl (eva_cons (ev_ix (vd (i := 0) rfl rfl) ev_int rfl rfl) eva_nil) ⟨b, rfl, ok.book, rfl, (fun z => nomatch z), rfl⟩))))) rfl) (ss_nil ?_))
  refine ss_one (s_ret (Ev.then (ev_call0 (w := .d (.bl true)) h_has_kinds_below (hr.mono (by decide)) rfl (eva_cons (ev_ix (vd (i := 0) rfl rfl) ev_int rfl rfl) (eva_cons (ev_len rfl B.len (ev_ix (vd (i := 0) rfl rfl) ev_int rfl rfl) rfl) eva_nil)) ⟨st, b.length, by rw [List.length_map]; rfl, ok.start, rfl, (fun z => nomatch z), rfl⟩) hΦ))
theorem ok_need_garden (F : Fun K "need_garden" "need_garden" s_need_garden f fd) (B : Bt mg) (h_is_garden_value : HasFn P w K mg base "is_garden_value" 7 (spD CP sp_is_garden_value)) : FnOk P w K mg base CX0 8 f fd ["garden"] (spD CP sp_need_garden) := by
  refine fnD F sc_need_garden (by decide) (fun ws Φ ⟨i, l, h, _⟩ => by rw [h]; rfl) fun cdv A outer s H E G ws Φ hC hr hS => ?_
  obtain ⟨st, b, rfl, ok, hΦ⟩ := hS
  refine ss_one (s_ifF (EvT.is (evT_not (evT_val (ev_call0 (w := .d (.bl true)) h_is_garden_value (hr.mono (by decide)) rfl (eva_cons (vd (i := 0) rfl rfl) eva_nil) ⟨st, b, rfl, ok, rfl, (fun z => nomatch z), rfl⟩))) rfl) (ss_nil hΦ))
theorem ok_need_from (F : Fun K "need_from" "need_from" s_need_from f fd) (B : Bt mg) (h_is_integer : HasFn P w K mg base "is_integer" 1 (spD CP sp_is_integer)) : FnOk P w K mg base CX0 2 f fd ["thing", "least"] (spD CP sp_need_from) := by
  refine fnD F sc_need_from (by decide) (fun ws Φ ⟨i, l, h, _⟩ => by rw [h]; rfl) fun cdv A outer s H E G ws Φ hC hr hS => ?_
  obtain ⟨i, l, rfl, ok, hΦ⟩ := hS
  refine ss_one (s_ifF (EvT.is (evT_or2 (evT_not (evT_val (ev_call0 (w := .d (.bl true)) h_is_integer (hr.mono (by decide)) rfl (eva_cons (vd (i := 0) rfl rfl) eva_nil) ⟨i, rfl, rfl, (fun z => nomatch z), rfl⟩))) (fun _ => et_lt (vd (i := 0) rfl rfl) (vd (i := 1) rfl rfl))) ?_) (ss_nil hΦ))
  show (false || decide (i < l)) = false
  simp; omega
end
end Md
end P1bPart
section Mm2Part
set_option Elab.async false
set_option linter.all false
set_option maxRecDepth 100000
set_option maxHeartbeats 2000000
/-! Relaxing sums until nothing moves. -/
namespace Md
def msum (B : Int) : Row → Int
  | [] => 0
  | o :: t => o.getD B + msum B t
def cnt : Row → Nat
  | [] => 0
  | none :: t => cnt t + 1
  | some _ :: t => cnt t
theorem row_at {r : Row} {v : Nat} (h : v < r.length) : r[v]? = some (r.at v) := by
  unfold Row.at
  rw [List.getD_eq_getElem?_getD, List.getElem?_eq_getElem h]
  rfl
theorem row_out {r : Row} {v : Nat} (h : r.length ≤ v) : r.at v = none := by
  unfold Row.at
  rw [List.getD_eq_getElem?_getD, List.getElem?_eq_none h]
  rfl
theorem at_set {r : Row} {v u : Nat} {o : Option Int} (h : v < r.length) : Row.at (r.set v o) u = if u = v then o else r.at u := by
  unfold Row.at
  rw [List.getD_eq_getElem?_getD, List.getD_eq_getElem?_getD]
  by_cases e : u = v
  · subst e
    rw [List.getElem?_set_self h, if_pos rfl]
    rfl
  · rw [List.getElem?_set_ne (Ne.symm e), if_neg e]
theorem msum_set {B : Int} {o : Option Int} : ∀ {r : Row} {v : Nat}, v < r.length → msum B (r.set v o) + (r.at v).getD B = msum B r + o.getD B
  | [], v, h => by simp at h
  | a :: t, 0, _ => by
    show o.getD B + msum B t + (Row.at (a :: t) 0).getD B = a.getD B + msum B t + o.getD B
    have : Row.at (a :: t) 0 = a := rfl
    rw [this]
    omega
  | a :: t, v + 1, h => by
    have ih := msum_set (B := B) (o := o) (r := t) (v := v) (by simpa using h)
    have : Row.at (a :: t) (v + 1) = Row.at t v := rfl
    rw [this]
    show a.getD B + msum B (t.set v o) + _ = a.getD B + msum B t + _
    omega
theorem cnt_none {y : Int} : ∀ {r : Row} {v : Nat}, v < r.length → r.at v = none → cnt (r.set v (some y)) + 1 = cnt r
  | [], v, h, _ => by simp at h
  | a :: t, 0, _, e => by
    have : a = none := e
    subst this
    rfl
  | a :: t, v + 1, h, e => by
    have ih := cnt_none (y := y) (r := t) (v := v) (by simpa using h) e
    cases a with
    | none => show cnt (t.set v (some y)) + 1 + 1 = cnt t + 1; omega
    | some z => exact ih
theorem cnt_some {y z : Int} : ∀ {r : Row} {v : Nat}, v < r.length → r.at v = some z → cnt (r.set v (some y)) = cnt r
  | [], v, h, _ => by simp at h
  | a :: t, 0, _, e => by
    have : a = some z := e
    subst this
    rfl
  | a :: t, v + 1, h, e => by
    have ih := cnt_some (y := y) (r := t) (v := v) (by simpa using h) e
    cases a with
    | none => show cnt (t.set v (some y)) + 1 = cnt t + 1; omega
    | some z => exact ih
theorem cnt_le : ∀ r : Row, cnt r ≤ r.length
  | [] => Nat.le_refl _
  | none :: t => by have := cnt_le t; show cnt t + 1 ≤ t.length + 1; omega
  | some _ :: t => by have := cnt_le t; show cnt t ≤ t.length + 1; omega
theorem msum_nonneg {B : Int} (hB : 0 ≤ B) : ∀ r : Row, (∀ v x, r.at v = some x → 0 ≤ x) → 0 ≤ msum B r
  | [], _ => Int.le_refl _
  | o :: t, h => by
    have ih := msum_nonneg hB t fun v x e => h (v + 1) x e
    have h0 : 0 ≤ o.getD B := by
      cases o with
      | none => exact hB
      | some x => exact h 0 x rfl
    show 0 ≤ o.getD B + msum B t
    omega
/-- sums on the way: attained, p's is 0, bounded -/
structure SI (es : List Edge) (p n : Nat) (L : Int) (s : Row) : Prop where
  len : s.length = n
  zero : ∃ z, s.at p = some z ∧ z ≤ 0
  walk : ∀ v x, s.at v = some x → Walk es p v x
  bnd : ∀ v x, s.at v = some x → x ≤ ((n - cnt s : Nat) : Int) * L
def Clo (u v : Nat) (l : Int) (s : Row) : Prop := ∀ x, s.at u = some x → ∃ y, s.at v = some y ∧ y ≤ x + l
def big (n : Nat) (L : Int) : Int := (n : Int) * L + 1
theorem si_step {es : List Edge} {p n : Nat} {L : Int} {s : Row} (si : SI es p n L s) (hp : PosE es) (hL : ∀ e, e ∈ es → e.2.2 ≤ L) (hL0 : 0 ≤ L) {u v : Nat} {l x : Int} (hv : v < n) (m : (u, v, l) ∈ es ∨ (v, u, l) ∈ es) (hu : s.at u = some x)
    (hl : s.at v = none ∨ ∃ y, s.at v = some y ∧ x + l < y) : SI es p n L (s.set v (some (x + l))) ∧ msum (big n L) (s.set v (some (x + l))) < msum (big n L) s := by
  have hvl : v < s.length := by rw [si.len]; exact hv
  have wv : Walk es p v (x + l) := by
    rcases m with m | m
    · exact .there (si.walk u x hu) m
    · exact .back (si.walk u x hu) m
  have l1 : l ≤ L := by rcases m with m | m <;> exact hL _ m
  have xb := si.bnd u x hu
  have cl := cnt_le s
  rw [si.len] at cl
  have hms := msum_set (B := big n L) (o := some (x + l)) hvl
  -- the bound on the new one
  have nb : x + l ≤ ((n - cnt (s.set v (some (x + l))) : Nat) : Int) * L ∧ ((n - cnt s : Nat) : Int) * L ≤ ((n - cnt (s.set v (some (x + l))) : Nat) : Int) * L := by
    rcases hl with e | ⟨y, e, hy⟩
    · have hc := cnt_none (y := x + l) hvl e
      have e1 : ((n - cnt (s.set v (some (x + l))) : Nat) : Int) = ((n - cnt s : Nat) : Int) + 1 := by omega
      rw [e1, Int.add_mul, Int.one_mul]
      constructor <;> omega
    · have hc := cnt_some (y := x + l) hvl e
      rw [hc]
      have := si.bnd v y e
      constructor <;> omega
  have big_gt : x + l < big n L := by
    unfold big
    have h1 : ((n - cnt (s.set v (some (x + l))) : Nat) : Int) ≤ (n : Int) := by omega
    have h2 := Int.mul_le_mul_of_nonneg_right h1 hL0
    omega
  refine ⟨⟨by rw [List.length_set]; exact si.len, ?_, fun t z ht => ?_, fun t z ht => ?_⟩, ?_⟩
  · obtain ⟨z, hz, hz0⟩ := si.zero
    by_cases e : p = v
    · subst e
      rw [at_set hvl, if_pos rfl]
      refine ⟨_, rfl, ?_⟩
      rcases hl with e | ⟨y, e, hy⟩
      · rw [hz] at e; cases e
      · rw [hz] at e; cases e; omega
    · rw [at_set hvl, if_neg e]
      exact ⟨z, hz, hz0⟩
  · rw [at_set hvl] at ht
    by_cases e : t = v
    · rw [if_pos e] at ht; cases ht; rw [e]; exact wv
    · rw [if_neg e] at ht; exact si.walk t z ht
  · rw [at_set hvl] at ht
    by_cases e : t = v
    · rw [if_pos e] at ht; cases ht; exact nb.1
    · rw [if_neg e] at ht; have := si.bnd t z ht; omega
  · simp only [Option.getD_some] at hms
    rcases hl with e | ⟨y, e, hy⟩
    · rw [e] at hms; simp only [Option.getD_none] at hms; omega
    · rw [e] at hms; simp only [Option.getD_some] at hms; omega
/-- closed: these are the distances -/
theorem si_done {es : List Edge} {p n : Nat} {L : Int} {s : Row} (si : SI es p n L s) (hp : PosE es) (hc : ∀ e, e ∈ es → Clo e.1 e.2.1 e.2.2 s ∧ Clo e.2.1 e.1 e.2.2 s) (v : Nat) : s.at v = dist es p v :=
  dist_of hp si.zero (fun u v l m x hx => by
    rcases m with m | m
    · exact (hc _ m).1 x hx
    · exact (hc _ m).2 x hx) si.walk v
def row0 (n p : Nat) : Row := (List.range n).map fun v => if v = p then some 0 else none
theorem row0_at {n p v : Nat} (h : v < n) : (row0 n p).at v = if v = p then some 0 else none := by
  unfold Row.at row0
  rw [List.getD_eq_getElem?_getD, List.getElem?_map, List.getElem?_range h]
  rfl
theorem row0_len (n p : Nat) : (row0 n p).length = n := by unfold row0; simp
theorem si_start {es : List Edge} {p n : Nat} {L : Int} (hL0 : 0 ≤ L) (hp : p < n) : SI es p n L (row0 n p) := by
  have h0 : ∀ v x, (row0 n p).at v = some x → v = p ∧ x = 0 := fun v x e => by
    by_cases hv : v < n
    · rw [row0_at hv] at e
      by_cases h : v = p
      · rw [if_pos h] at e; cases e; exact ⟨h, rfl⟩
      · rw [if_neg h] at e; cases e
    · rw [row_out (by rw [row0_len]; omega)] at e; cases e
  refine ⟨row0_len n p, ⟨0, by rw [row0_at hp, if_pos rfl], Int.le_refl _⟩, fun v x e => ?_, fun v x e => ?_⟩
  · obtain ⟨rfl, rfl⟩ := h0 v x e; exact .nil
  · obtain ⟨rfl, rfl⟩ := h0 v x e; exact Int.mul_nonneg (Int.natCast_nonneg _) hL0
/-- the row of a function -/
def rowOf (n : Nat) (f : Nat → Option Int) : Row := (List.range n).map f
theorem rowOf_len (n : Nat) (f : Nat → Option Int) : (rowOf n f).length = n := by unfold rowOf; simp
theorem rowOf_at {n v : Nat} {f : Nat → Option Int} (h : v < n) : (rowOf n f).at v = f v := by
  unfold Row.at rowOf
  rw [List.getD_eq_getElem?_getD, List.getElem?_map, List.getElem?_range h]
  rfl
theorem row_ext {n : Nat} {s : Row} {f : Nat → Option Int} (hl : s.length = n) (h : ∀ v, v < n → s.at v = f v) : s = rowOf n f := by
  refine List.ext_getElem? fun i => ?_
  by_cases hi : i < n
  · rw [row_at (by omega), row_at (by rw [rowOf_len]; exact hi), h i hi, rowOf_at hi]
  · rw [List.getElem?_eq_none (by omega), List.getElem?_eq_none (by rw [rowOf_len]; omega)]
/-- a bound of the lengths -/
theorem bound_of (es : List Edge) : ∃ L : Int, 0 ≤ L ∧ ∀ e, e ∈ es → e.2.2 ≤ L := by
  induction es with
  | nil => exact ⟨0, Int.le_refl _, fun e h => by cases h⟩
  | cons a t ih =>
    obtain ⟨L, h0, h1⟩ := ih
    refine ⟨max L a.2.2, by omega, fun e he => ?_⟩
    rcases List.mem_cons.mp he with rfl | he
    · omega
    · have := h1 e he; omega
end Md
end Mm2Part
section P2Part
set_option Elab.async false
set_option linter.all false
set_option maxRecDepth 100000
set_option maxHeartbeats 2000000
/-! distances.py: sums along ways -/
namespace Md
open PySem L2
def sp_tied_lengths : Spec := fun ws Φ => ∃ (W : Web) (r : Row), ws = [.d (dWeb W), .d (dRow r)] ∧ W.Ok r.length ∧ Φ (.lst true ((tied W r).map dEdge))
def sp_spread_sums : Spec := fun ws Φ => ∃ (es : List Edge) (n p : Nat), ws = [.lst false (es.map dEdge), .lst false ((row0 n p).map dOpt)] ∧ PosE es ∧ Inn n es ∧ p < n ∧ Φ (.lst true ((rowOf n (dist es p)).map dOpt))
def sp_sums_from : Spec := fun ws Φ => ∃ (es : List Edge) (n p : Nat), ws = [.d (dN n), .lst false (es.map dEdge), .d (dN p)] ∧ PosE es ∧ Inn n es ∧ p < n ∧ n ≤ 1000 ∧ Φ (.lst true ((rowOf n (dist es p)).map dOpt))
theorem outs_filterMap {α : Type} {g : α → Option Dat} {xs : List α} {ys : List Dat} (o : Outs (fun x r => r = g x) xs ys) : ys = xs.filterMap g := by
  induction o with
  | nil => rfl
  | yes h t ih => rw [List.filterMap_cons, ← h, ih]
  | no h t ih => rw [List.filterMap_cons, ← h, ih]
section
variable {P : Program} {w : World} {K : PySem.W.Frag} {mg : Str → Option Value} {base : Heap} {f : Addr} {fd : FuncData}
theorem ok_tied_lengths (F : Fun K "tied_lengths" "tied_lengths" s_tied_lengths f fd) (B : Bt mg) : FnOk P w K mg base CX0 1 f fd ["web", "numbers"] (spD CP sp_tied_lengths) := by
  refine fnD F sc_tied_lengths (by decide) (fun ws Φ ⟨i, l, h, _⟩ => by rw [h]; rfl) fun cdv A outer s H E G ws Φ hC hr hS => ?_
  obtain ⟨W, r, rfl, ok, hΦ⟩ := hS
  refine ss_one (s_ret ?_)
  refine ec_lc (own := [("tail", 2), ("head", 3), ("kind", 4)]) W.ts dTie (fun t o => o = (r.at t.2.2).map fun l => dEdge (t.1, t.2.1, l)) pat_three rfl (sc_tied_lengths).nd (blkOk_by (N := N_tied_lengths) (sc := defScope s_tied_lengths) (by decide +kernel)) (by simp) (Nat.le_trans ok.few (by decide))
    (fun s H C cl fp => pg_tup rfl (pgs_cons (pg_name (i := 2) (sc_tied_lengths).nd rfl (.inl rfl)) (pgs_cons (pg_name (i := 3) (sc_tied_lengths).nd rfl (.inl rfl)) (pgs_cons (pg_name (i := 4) (sc_tied_lengths).nd rfl (.inl rfl)) pgs_nil))))
    (ei_tup (Ev.then (ev_ix (vd (i := 0) rfl rfl) ev_int rfl rfl) ⟨_, rfl, rfl⟩)) (fun t ht => ⟨_, ⟨_, _, _, rfl, rfl⟩, fun s H C cl fp => ets_one ?_⟩) fun out ho => ?_
  · have hc := (ok.ties t ht).2.2.2
    have e1 : atI (r.map dOpt) (t.2.2 : Int) = some (dOpt (r.at t.2.2)) := atI_row hc
    refine EvT.then (et_notN (ev_ix (vd (i := 1) rfl rfl) (vd (i := 4) rfl rfl) rfl e1)) ?_
    rw [isNon_opt]
    cases e : r.at t.2.2 with
    | none => exact ⟨fun z => (nomatch z), fun _ => rfl⟩
    | some l =>
      rw [e] at e1
      exact ⟨fun _ s H C cl fp => Ev.then (ev_tup (eva_cons (vd (i := 2) rfl rfl) (eva_cons (vd (i := 3) rfl rfl) (eva_cons (ev_ix (vd (i := 1) rfl rfl) (vd (i := 4) rfl rfl) rfl e1) eva_nil))) (.cons (.cons (.cons .nil)))) ⟨_, rfl, rfl⟩, fun z => (nomatch z)⟩
  · rw [outs_filterMap ho]
    have : W.ts.filterMap (fun t => (r.at t.2.2).map fun l => dEdge (t.1, t.2.1, l)) = (tied W r).map dEdge := by
      unfold tied
      rw [List.map_filterMap]
      congr 1
      funext t
      cases r.at t.2.2 <;> rfl
    rw [this]
    exact hΦ
/-- what is known at a turn -/
abbrev SpE (es : List Edge) (bg : List Dat) (s : Row) (mv : Bool) (a b c d e : Option W) : Env1 := [some (.lst false (es.map dEdge)), some (.lst false bg), some (.lst true (s.map dOpt)), some (.d (.bl mv)), a, b, c, d, e]
theorem ok_spread_sums (F : Fun K "spread_sums" "spread_sums" s_spread_sums f fd) (B : Bt mg) : FnOk P w K mg base CX0 1 f fd ["ties", "begin"] (spD CP sp_spread_sums) := by
  refine fnD F sc_spread_sums (by decide) (fun ws Φ ⟨i, l, n, h, _⟩ => by rw [h]; rfl) fun cdv A outer s0 H E G ws Φ hC hr hS => ?_
  obtain ⟨es, n, p, rfl, hpos, hinn, hp, hΦ⟩ := hS
  obtain ⟨L, hL0, hL⟩ := bound_of es
  refine ss_cons (s_par2 (i := 2) (j := 3) rfl (sc_spread_sums).nd rfl rfl (by decide) rfl rfl (Ev.then (ev_list rfl B.list (vl (i := 1) rfl rfl) rfl) ⟨rfl, Ev.then ev_bl ⟨rfl, ?_⟩⟩))
  -- the while: 2 * M, and one while it moves
  refine ss_cons (s_while (fun m ρ' => ∃ s mv a b c d e, ρ' = SpE es ((row0 n p).map dOpt) s mv a b c d e ∧ SI es p n L s ∧ (mv = false → ∀ e, e ∈ es → Clo e.1 e.2.1 e.2.2 s ∧ Clo e.2.1 e.1 e.2.2 s) ∧ m = 2 * (msum (big n L) s).toNat + (if mv = true then 1 else 0)) _
    ⟨row0 n p, true, _, _, _, _, _, rfl, si_start hL0 hp, fun z => (nomatch z), rfl⟩ PassesOwn.never ?_)
  rintro m ρ' ⟨s, mv, a4, a5, a6, a7, a8, rfl, si, hcl, rfl⟩
  have hB : 0 ≤ big n L := by unfold big; have := Int.mul_nonneg (Int.natCast_nonneg n) hL0; omega
  have hnn : ∀ {s : Row}, SI es p n L s → 0 ≤ msum (big n L) s := fun si => msum_nonneg hB _ fun v x e => (si.walk v x e).nonneg hpos
  refine EvT.then (evT_val (vd (i := 3) rfl rfl)) ⟨fun hmv => ?_, fun hmv => ?_⟩
  · subst hmv
    refine ss_cons (s_set (i := 3) (sc_spread_sums).nd rfl (.inl rfl) (Ev.then ev_bl ⟨rfl, ?_⟩))
    refine ss_one (s_for pat_three rfl (pg_tup rfl (pgs_cons (pg_name (i := 4) (sc_spread_sums).nd rfl (.inl rfl)) (pgs_cons (pg_name (i := 5) (sc_spread_sums).nd rfl (.inl rfl)) (pgs_cons (pg_name (i := 6) (sc_spread_sums).nd rfl (.inl rfl)) pgs_nil)))) PassesOwn.never
      (ei_var (i := 0) rfl (.inl rfl) rfl ⟨fun i ρ' => ∃ s' mv' a b c d e, ρ' = SpE es ((row0 n p).map dOpt) s' mv' a b c d e ∧ SI es p n L s' ∧ (mv' = false → s' = s ∧ ∀ j e, j < i → es[j]? = some e → Clo e.1 e.2.1 e.2.2 s ∧ Clo e.2.1 e.1 e.2.2 s) ∧ (mv' = true → msum (big n L) s' < msum (big n L) s),
        ⟨s, false, _, _, _, _, _, rfl, si, fun _ => ⟨rfl, fun j e hj => absurd hj (Nat.not_lt_zero j)⟩, fun z => (nomatch z)⟩, ?_, ?_⟩))
    · rintro i d ρ' hd ⟨s', mv', b4, b5, b6, b7, b8, rfl, si', hf, ht⟩
      obtain ⟨e, he, rfl⟩ : ∃ e, es[i]? = some e ∧ d = dEdge e := by
        rw [List.getElem?_map] at hd
        cases h : es[i]? with
        | none => rw [h] at hd; cases hd
        | some e => rw [h] at hd; exact ⟨e, rfl, (Option.some.inj hd).symm⟩
      obtain ⟨u, v, l⟩ := e
      have hm : (u, v, l) ∈ es := List.mem_of_getElem? he
      have hun := (hinn _ hm).1
      have hvn := (hinn _ hm).2
      refine ⟨_, ⟨_, _, _, rfl, rfl⟩, ?_⟩
      have key : ∀ j d, [Dat.tup [dN u, dN v], Dat.tup [dN v, dN u]][j]? = some d → ∃ x y, d = .tup [dN x, dN y] ∧ x < n ∧ y < n ∧ ((x, y, l) ∈ es ∨ (y, x, l) ∈ es) ∧ ((j = 0 ∧ x = u ∧ y = v) ∨ (j = 1 ∧ x = v ∧ y = u)) := by
        intro j d hj
        match j, hj with
        | 0, hj => cases hj; exact ⟨u, v, rfl, hun, hvn, .inl hm, .inl ⟨rfl, rfl, rfl⟩⟩
        | 1, hj => cases hj; exact ⟨v, u, rfl, hvn, hun, .inr hm, .inr ⟨rfl, rfl, rfl⟩⟩
        | j + 2, hj => simp at hj
      refine ss_one (s_for pat_two rfl (pg_tup rfl (pgs_cons (pg_name (i := 7) (sc_spread_sums).nd rfl (.inl rfl)) (pgs_cons (pg_name (i := 8) (sc_spread_sums).nd rfl (.inl rfl)) pgs_nil))) PassesOwn.never
        (ei_tup (Ev.then (ev_tup (eva_cons (ev_tup (eva_cons (vd (i := 4) rfl rfl) (eva_cons (vd (i := 5) rfl rfl) eva_nil)) (.cons (.cons .nil))) (eva_cons (ev_tup (eva_cons (vd (i := 5) rfl rfl) (eva_cons (vd (i := 4) rfl rfl) eva_nil)) (.cons (.cons .nil))) eva_nil)) (.cons (.cons .nil))) ⟨_, rfl,
          fun j ρ' => ∃ s' mv' a b, ρ' = SpE es ((row0 n p).map dOpt) s' mv' (some (.d (dN u))) (some (.d (dN v))) (some (.d (.int l))) a b ∧ SI es p n L s' ∧ (mv' = false → s' = s ∧ (∀ j e, j < i → es[j]? = some e → Clo e.1 e.2.1 e.2.2 s ∧ Clo e.2.1 e.1 e.2.2 s) ∧ (1 ≤ j → Clo u v l s) ∧ (2 ≤ j → Clo v u l s)) ∧
            (mv' = true → msum (big n L) s' < msum (big n L) s), ⟨s', mv', _, _, rfl, si', fun e => ⟨(hf e).1, (hf e).2, fun z => absurd z (by omega), fun z => absurd z (by omega)⟩, ht⟩, ?_, ?_⟩)))
      · rintro j d ρ' hd' ⟨s1, mv1, c7, c8, rfl, si1, hf1, ht1⟩
        obtain ⟨x, y, rfl, hx, hy, hxy, hj⟩ := key j d hd'
        refine ⟨_, ⟨_, _, rfl, rfl⟩, ?_⟩
        have gx : atI (s1.map dOpt) (x : Int) = some (dOpt (s1.at x)) := atI_row (by rw [si1.len]; exact hx)
        have gy : atI (s1.map dOpt) (y : Int) = some (dOpt (s1.at y)) := atI_row (by rw [si1.len]; exact hy)
        -- nothing moves
        have stay : Clo x y l s1 → ∃ s' mv' a b, SpE es ((row0 n p).map dOpt) s1 mv1 (some (.d (dN u))) (some (.d (dN v))) (some (.d (.int l))) (some (.d (dN x))) (some (.d (dN y))) = SpE es ((row0 n p).map dOpt) s' mv' (some (.d (dN u))) (some (.d (dN v))) (some (.d (.int l))) a b ∧ SI es p n L s' ∧
            (mv' = false → s' = s ∧ (∀ j e, j < i → es[j]? = some e → Clo e.1 e.2.1 e.2.2 s ∧ Clo e.2.1 e.1 e.2.2 s) ∧ (1 ≤ j + 1 → Clo u v l s) ∧ (2 ≤ j + 1 → Clo v u l s)) ∧ (mv' = true → msum (big n L) s' < msum (big n L) s) := fun hc => by
          refine ⟨s1, mv1, _, _, rfl, si1, fun e => ?_, ht1⟩
          obtain ⟨q1, q2, q3, q4⟩ := hf1 e
          subst q1
          refine ⟨rfl, q2, fun _ => ?_, fun h2 => ?_⟩
          · rcases hj with ⟨rfl, rfl, rfl⟩ | ⟨rfl, rfl, rfl⟩
            · exact hc
            · exact q3 (Nat.le_refl _)
          · rcases hj with ⟨rfl, rfl, rfl⟩ | ⟨rfl, rfl, rfl⟩
            · omega
            · exact hc
        refine ss_one (s_if (EvT.then (b := match s1.at x, s1.at y with | some z, some t => decide (z + l < t) | some _, none => true | none, _ => false) ?tst ⟨fun hb => ?go, fun hb => ss_nil (stay fun z hz => ?nogo)⟩))
        case tst =>
          cases hsx : s1.at x with
          | none =>
            rw [hsx] at gx
            exact EvT.is (evT_and2 (q := false) (et_notN (ev_ix (vl (i := 2) rfl rfl) (vd (i := 7) rfl rfl) rfl gx)) (fun z => (nomatch z))) rfl
          | some z =>
            rw [hsx] at gx
            cases hsy : s1.at y with
            | none =>
              rw [hsy] at gy
              exact EvT.is (evT_and2 (et_notN (ev_ix (vl (i := 2) rfl rfl) (vd (i := 7) rfl rfl) rfl gx)) (fun _ => (evT_or2 (q := false) (et_isN (ev_ix (vl (i := 2) rfl rfl) (vd (i := 8) rfl rfl) rfl gy)) (fun z => (nomatch z))))) rfl
            | some t =>
              rw [hsy] at gy
              refine EvT.is (evT_and2 (et_notN (ev_ix (vl (i := 2) rfl rfl) (vd (i := 7) rfl rfl) rfl gx)) (fun _ => (evT_or2 (et_isN (ev_ix (vl (i := 2) rfl rfl) (vd (i := 8) rfl rfl) rfl gy)) (fun _ => (et_lt (ev_add (ev_ix (vl (i := 2) rfl rfl) (vd (i := 7) rfl rfl) rfl gx) (vd (i := 6) rfl rfl)) (ev_ix (vl (i := 2) rfl rfl) (vd (i := 8) rfl rfl) rfl gy)))))) ?_
              show (true && (false || decide (z + l < t))) = decide (z + l < t)
              simp
        case nogo =>
          rw [hz] at hb
          cases hsy : s1.at y with
          | none => rw [hsy] at hb; cases hb
          | some t => rw [hsy] at hb; exact ⟨t, rfl, by have := of_decide_eq_false hb; omega⟩
        case go =>
          obtain ⟨z, hz, hl⟩ : ∃ z, s1.at x = some z ∧ (s1.at y = none ∨ ∃ t, s1.at y = some t ∧ z + l < t) := by
            cases hsx : s1.at x with
            | none => rw [hsx] at hb; cases hb
            | some z =>
              rw [hsx] at hb
              cases hsy : s1.at y with
              | none => exact ⟨z, rfl, .inl rfl⟩
              | some t => rw [hsy] at hb; exact ⟨z, rfl, .inr ⟨t, rfl, of_decide_eq_true hb⟩⟩
          rw [hz] at gx
          obtain ⟨si2, hlt⟩ := si_step si1 hpos hL hL0 hy hxy hz hl
          refine ss_cons (s_setL (i := 2) rfl (.inl rfl) rfl (Ev.then (ev_add (ev_ix (vl (i := 2) rfl rfl) (vd (i := 7) rfl rfl) rfl gx) (vd (i := 6) rfl rfl)) ⟨_, rfl, Ev.then (vd (i := 8) rfl rfl) ⟨_, y, rfl, by rw [List.length_map, si1.len]; exact ixN_nat hy, ?_⟩⟩))
          refine ss_one (s_set (i := 3) (sc_spread_sums).nd rfl (.inl rfl) (Ev.then ev_bl ⟨rfl, ?_⟩))
          refine ⟨s1.set y (some (z + l)), true, some (.d (dN x)), some (.d (dN y)), ?_, si2, fun z => (nomatch z), fun _ => ?_⟩
          · have e : (s1.set y (some (z + l))).map dOpt = (s1.map dOpt).set y (Dat.int (z + l)) := by rw [List.map_set]; rfl
            unfold SpE
            rw [e]
            rfl
          · cases mv1 with
            | false => have := (hf1 rfl).1; subst this; exact hlt
            | true => have := ht1 rfl; omega
      · rintro ρ' ⟨s1, mv1, c7, c8, rfl, si1, hf1, ht1⟩
        refine ⟨s1, mv1, _, _, _, _, _, rfl, si1, fun e => ?_, ht1⟩
        obtain ⟨q1, q2, q3, q4⟩ := hf1 e
        refine ⟨q1, fun j e' hj he' => ?_⟩
        by_cases hji : j = i
        · subst hji
          rw [he] at he'; cases he'
          exact ⟨q3 (by simp), q4 (by simp)⟩
        · exact q2 j e' (by omega) he'
    · rintro ρ' ⟨s', mv', b4, b5, b6, b7, b8, rfl, si', hf, ht⟩
      have h0 := hnn si
      have h1 := hnn si'
      cases mv' with
      | false =>
        obtain ⟨rfl, hc⟩ := hf rfl
        refine ⟨_, by simp, s', false, _, _, _, _, _, rfl, si', fun _ e he => ?_, rfl⟩
        obtain ⟨j, hj⟩ := List.getElem?_of_mem he
        refine hc j e ?_ hj
        rw [List.length_map]
        exact (List.getElem?_eq_some_iff.mp hj).1
      | true =>
        have := ht rfl
        exact ⟨_, by simp; omega, s', true, _, _, _, _, _, rfl, si', fun z => (nomatch z), rfl⟩
  · subst hmv
    refine ss_one (s_retV (i := 2) rfl (.inl rfl) rfl ?_)
    have : s = rowOf n (dist es p) := row_ext si.len fun v _ => si_done si hpos (hcl rfl) v
    rw [this]
    exact hΦ
end
end Md
end P2Part
section MdJPart
set_option Elab.async false
set_option linter.all false
set_option maxRecDepth 100000
set_option maxHeartbeats 2000000
/-! enumerate of a tuple; zip of tuples and lists in any mix. -/
namespace PySem
open Sem (wp)
set_option maxHeartbeats 1000000 in
theorem meets_enumerate_newB1 {v : Value} {o : Obj} {H : Heap → Prop} (B : Begins v o H) :
    Meets (Builtin.«enumerate.__new__» ⟨[.type "enumerate", v], []⟩) (fun _ R s => H s.heap ∧
      R (.ok (.ret (.ref (s.heap.push o).objs.size))) { s with heap := (s.heap.push o).push { cls := .type "enumerate", data := .fields #[.none, .bool false, .ref s.heap.objs.size, rawInt 0, .none, .none] } }) :=
  .of_wp fun prog w A R s h => by
    obtain ⟨hp, g, d, tk, os⟩ := s; obtain ⟨h1, h⟩ := h
    have hsub := sub_enumerate
    have q1 : ∀ {A' : Around} {E : Value → Shared → Prop} {Q : Value → Shared → Prop}, Q (.ref hp.objs.size) ⟨hp.push o, g, d, tk, os⟩ → wpAny (model prog w) A' (pyIter v) Q E ⟨hp, g, d, tk, os⟩ :=
      fun q => B.iter prog w _ _ ⟨hp, g, d, tk, os⟩ _ h1 q
    wp_walk using q1
    refine wpAny_stack_any fun st => wpAny_pure ?_
    split
    · rename_i c _ _ _ _ _
      cases (c == Value.type "enumerate")
      · wp_walk using q1
        exact ⟨_, rfl, h⟩
      · wp_walk using q1
        exact ⟨_, rfl, h⟩
    · wp_walk using q1
      exact ⟨_, rfl, h⟩
section
variable {prog : Program} {w : World} {A : Around} {E : Value → Shared → Prop} {s : Shared}
theorem enum_begins1 {v : Value} {o : Obj} {H : Heap → Prop} {Q : Value → Shared → Prop} (B : Begins v o H) (h1 : H s.heap)
    (h : ∀ h', IsEnum h' (s.heap.objs.size + 1) s.heap.objs.size 0 .none → h'.get? s.heap.objs.size = some o → h'.objs.size = s.heap.objs.size + 2 →
      (∀ b o, s.heap.get? b = some o → h'.get? b = some o) → Q (.ref (s.heap.objs.size + 1)) { s with heap := h' }) :
    wpAny (model prog w) A (call (.type "enumerate") [v]) Q E s := by
  refine callType_new F.called_enumerate (by decide) (F.typeCall_enumerate_1 _) (F.newCall_enumerate_1 _) (fun obj => F.args_object_init_2 obj _) F.entry_enumerate_new
    (meets_enumerate_newB1 B) ⟨h1, ?_⟩
  have hz : (s.heap.push o).objs.size = s.heap.objs.size + 1 := Heap.size_push ..
  show _ ∧ _
  rw [hz]
  have he : IsEnum ((s.heap.push o).push { cls := .type "enumerate", data := .fields #[.none, .bool false, .ref s.heap.objs.size, rawInt 0, .none, .none] }) (s.heap.objs.size + 1) s.heap.objs.size 0 .none := by
    have := Heap.get?_push_size (s.heap.push o) (o := { cls := .type "enumerate", data := .fields #[.none, .bool false, .ref s.heap.objs.size, rawInt 0, .none, .none] }) rfl
    rw [hz] at this; exact this
  refine ⟨⟨_, he, rfl⟩, h _ he (Heap.get?_push_of_some _ (Heap.get?_push_size _ B.free)) (by rw [Heap.size_push, hz]) fun b o x => Heap.get?_push_of_some _ (Heap.get?_push_of_some _ x)⟩
end
end PySem
namespace Md
open PySem PySem.Spec PyProof.Rows L2
/-- enumerate(t) -/
def IteT (K : PySem.W.Frag) (a : Addr) : It :=
  ⟨fun i H => ∃ (xs : List V) (x : V), SqT K H a xs ∧ xs[i]? = some x, fun i H v H' => ∃ T x, v = .ref T ∧ H T = none ∧ H' = upd H T (.tup [.int (i : Nat), x]) ∧ ∀ xs, SqT K H a xs → xs[i]? = some x, fun i H => ∃ xs : List V, SqT K H a xs ∧ xs.length = i⟩
theorem turn_enumT {P : Program} {w : World} {K : PySem.W.Frag} {elts : List Expr} {kk : Nat} {tpos : Pos} (a e it : Addr) :
    Turn P w K (.Tuple elts kk tpos) (IteT K a) [e, it] e (fun i h => (∃ old, IsEnum h e it ((i : Nat) : Int) old) ∧ h.IsTupleIter it a i ∧ e ≠ it ∧ a ≠ it ∧ a ≠ e) where
  mem := by simp
  obj := fun i h st b hb => by
    obtain ⟨⟨old, he⟩, ⟨o, ho, hc, hd⟩, _⟩ := st
    have e' : b = e ∨ b = it := by simpa using hb
    rcases e' with z | z
    · rw [z]; exact ⟨_, he, fun v q => nomatch q⟩
    · rw [z]; exact ⟨o, ho, fun v q => by rw [hd] at q; cases q⟩
  keep := fun i h h' st k => let ⟨⟨old, he⟩, hi, hne⟩ := st; ⟨⟨old, k e (by simp) _ he⟩, hi.at fun o q => k it (by simp) o q, hne⟩
  item := by
    intro X hP hw hK hc i pins s σ H E I hf st hg
    subst hP hw hK
    obtain ⟨⟨old, he⟩, hit, hne, hai, hae⟩ := st
    obtain ⟨xs, x, hq, hx⟩ := hg
    obtain ⟨its, rv, p, hz⟩ := I.tuple hq
    obtain ⟨u, hu, ru⟩ := rv.get hx
    have hel : e < s.heap.objs.size := Heap.lt_size he
    have hil : it < s.heap.objs.size := by obtain ⟨_, q, _⟩ := hit; exact Heap.lt_size q
    have D := Draws.tuple (prog := X.prog) (w := X.w) (A := X.A.in1) (I.ok.hd hc) it a hai its.toArray
    have hlt : i < its.toArray.size := by
      have := (List.getElem?_eq_some_iff.mp hu).1
      simpa using this
    refine wpAny_pyNext_enum_itemD D he ⟨hit, show s.heap.IsTuple a its.toArray from p⟩ hlt hne (by simp [hne, Ne.symm hae]) fun u' h' tk hu' ho hit' hT hsz hk => ?_
    have eu : u' = u := by
      rw [List.getElem?_toArray, hu] at hu'
      exact (Option.some.inj hu').symm
    subst eu
    refine ⟨_, rfl, wpAny_letOwnedTupleGo_enum (s := { s with heap := h', toks := tk + 1 }) ho fun h'' he' sb => ?_⟩
    have hT2 : h''.get? s.heap.objs.size = some { cls := .type "tuple", data := .seq #[.int i tk, u'] } := (sb.2 _ (Nat.ne_of_gt hel)).trans hT
    have new : ObjOk X.prog X.w (upd H s.heap.objs.size (.tup [.int (i : Nat), x])) h'' s.heap.objs.size (.tup [.int (i : Nat), x]) :=
      ⟨by show 2 ≤ sizeLine; decide, [.int i tk, u'], .cons ⟨_, rfl⟩ (.cons ru .nil), ⟨_, hT2, rfl, _, rfl⟩⟩
    have I1 : Inv X pins σ (upd H s.heap.objs.size (.tup [.int (i : Nat), x])) { s with heap := h'', toks := tk + 1 } :=
      I.turnedNew (ch := [e, it]) (fun b ob hb q => (sb.2 b (fun z => hb (by simp [z]))).trans (hk b ob (fun z => hb (by simp [z])) (fun z => hb (by simp [z])) q)) hf (Nat.le_refl _) new
    refine ⟨.ref s.heap.objs.size, _, I1, rfl, ⟨_, x, rfl, I.hok.fresh (Nat.le_refl _), rfl, fun ys hy => by rw [I.tuple_inj hy hq]; exact hx⟩, ⟨⟨u', ?_⟩, hit'.1.at fun o q => (sb.2 it (Ne.symm hne)).trans q, hne, hai, hae⟩, fun b hb => ?_⟩
    · have e1 : ((i + 1 : Nat) : Int) = (i : Int) + 1 := by omega
      rw [e1]; exact he'
    · have hb' : b < s.heap.objs.size := by
        have e' : b = e ∨ b = it := by simpa using hb
        rcases e' with z | z
        · rw [z]; exact hel
        · rw [z]; exact hil
      rw [upd_ne (Nat.ne_of_lt hb')]
      exact (hf b hb).1
  done := by
    intro X hP hw hK hc i pins s σ H E I hf st hg
    subst hP hw hK
    obtain ⟨⟨old, he⟩, hit, hne, hai, hae⟩ := st
    obtain ⟨xs, hq, hx⟩ := hg
    obtain ⟨its, rv, p, hz⟩ := I.tuple hq
    obtain ⟨f0, f1, f2, f3, f4, f5⟩ := hf it (by simp)
    have hl := rv.length
    have D := Draws.tuple (prog := X.prog) (w := X.w) (A := X.A.in1) (I.ok.hd hc) it a hai its.toArray
    have hlt : i = its.toArray.size := by simp; omega
    exact wpAny_pyNext_enum_endD D he ⟨by rw [← hlt]; exact hit, show s.heap.IsTuple a its.toArray from p⟩ fun h' eb => ⟨rfl, I.turned (t' := s.toks) (fun b o hb q => eb b o hb q) f0 f1 f3 f4 f5⟩
  self := fun A i s Q E st h => let ⟨⟨_, he⟩, _⟩ := st; wpAny_pyIter_enum he h
def iEnumT (K : PySem.W.Frag) (ta : TA) : TI := fun σ H R => ta σ H fun vs H1 => ∃ a xs, vs = [.ref a] ∧ SqT K H1 a xs ∧ R (IteT K a) H1
theorem pi_enumT {X : Cx} {e : Expr} {ta : TA} {p pos tpos : Pos} {elts : List Expr} {kk : Nat} (hg : Gl X "enumerate") (hm : X.mg "enumerate" = none) (ha : PA X [e] ta) (hs : starEach [e] X.env = [(false, eval e X.env)] := by rfl) :
    PI X (.Tuple elts kk tpos) (.Call (.Name "enumerate" p) [e] [] pos) (iEnumT X.K ta) := by
  refine ⟨fun pins s σ H R I h => ?_⟩
  refine Call_ (ld_blt I hg hm PyProof.Rows.boot_enumerate (PyProof.Rows.callWith_type1 (thn (ha.run pos pins s σ H _ I h) fun us s1 ⟨vs, H1, I1, r1, q1⟩ => ?_) hs rfl))
  obtain ⟨a, xs, ex, hq, q⟩ := q1
  subst ex
  cases r1 with
  | cons r rr =>
    cases rr
    cases r
    obtain ⟨its, rv, p', hz⟩ := I1.tuple hq
    have hp' : s1.heap.IsTuple a its.toArray := p'
    have hlt : a < s1.heap.objs.size := by obtain ⟨o, ho, _⟩ := id p'; exact Heap.lt_size ho
    refine enum_begins1 (begins_tuple a its.toArray) hp' fun h' he hit hsz hk => wpAny_pyIter_enum he ?_
    have I2 : Inv X pins σ H1 { s1 with heap := h' } := I1.kept (t' := s1.toks) hk
    refine ⟨s1.heap.objs.size + 1, [s1.heap.objs.size + 1, s1.heap.objs.size], _, _, H1, rfl, I2, turn_enumT a (s1.heap.objs.size + 1) s1.heap.objs.size, ⟨⟨.none, he⟩, ⟨_, hit, rfl, rfl⟩, Nat.succ_ne_self _, Nat.ne_of_lt hlt, Nat.ne_of_lt (Nat.lt_succ_of_lt hlt)⟩, fun b hb => ?_, q⟩
    have e' : b = s1.heap.objs.size + 1 ∨ b = s1.heap.objs.size := by simpa using hb
    have hle : s1.heap.objs.size ≤ b := by
      rcases e' with z | z
      · rw [z]; exact Nat.le_add_right _ _
      · rw [z]; exact Nat.le_refl _
    exact I1.fpOk hle (I1.hok.fresh hle)

/-! ### zip, each side a list (true) or a tuple (false) -/
def SqB (b : Bool) (K : PySem.W.Frag) (H : Hp) (a : Addr) (xs : List V) : Prop := match b with | true => SqL K H a xs | false => SqT K H a xs
def ItB (b : Bool) (h : Heap) (it a : Addr) (i : Nat) : Prop := match b with | true => h.IsListIter it a i | false => h.IsTupleIter it a i
def AtB (b : Bool) (h : Heap) (a : Addr) (xs : Array Value) : Prop := match b with | true => h.IsList a xs | false => h.IsTuple a xs
def obB (b : Bool) (a : Addr) : Obj := match b with | true => { cls := .type "list_iterator", data := .fields #[.ref a, .int 0 0] } | false => { cls := .type "tuple_iterator", data := .fields #[.ref a, .int 0 0] }
theorem drawsB {prog : Program} {w : World} {A : Around} (b : Bool) (hh : A.handled = none) (it l : Addr) (hne : l ≠ it) (items : Array Value) : Draws prog w A it [it, l] items.size (fun i v => items[i]? = some v) (fun i h => ItB b h it l i ∧ AtB b h l items) := by
  cases b with
  | true => exact Draws.list hh it l hne items
  | false => exact Draws.tuple hh it l hne items
theorem beginsB (b : Bool) (l : Addr) (items : Array Value) : Begins (.ref l) (obB b l) fun h => AtB b h l items := by
  cases b with
  | true => exact begins_list l items
  | false => exact begins_tuple l items
theorem ItB.obj {b : Bool} {h : Heap} {it a : Addr} {i : Nat} (x : ItB b h it a i) : ∃ o, h.get? it = some o ∧ ∀ v, o.data ≠ .cell v := by
  cases b with
  | true => obtain ⟨o, e, c, d⟩ := x; exact ⟨o, e, fun v z => by rw [d] at z; cases z⟩
  | false => obtain ⟨o, e, c, d⟩ := x; exact ⟨o, e, fun v z => by rw [d] at z; cases z⟩
theorem ItB.at {b : Bool} {h h' : Heap} {it a : Addr} {i : Nat} (x : ItB b h it a i) (k : ∀ o, h.get? it = some o → h'.get? it = some o) : ItB b h' it a i := by
  cases b with
  | true => exact Heap.IsListIter.at (show h.IsListIter it a i from x) k
  | false => exact Heap.IsTupleIter.at (show h.IsTupleIter it a i from x) k
theorem ItB.new {b : Bool} {h : Heap} {it a : Addr} (e : h.get? it = some (obB b a)) : ItB b h it a 0 := by
  cases b with
  | true => exact ⟨_, e, rfl, rfl⟩
  | false => exact ⟨_, e, rfl, rfl⟩
section
variable {X : Cx} {pins : List (Addr × Obj)} {σ : L2.St} {H : Hp} {s : Shared} {a : Addr} {xs ys : List V} {b : Bool}
theorem SqB.seq (I : Inv X pins σ H s) (h : SqB b X.K H a xs) : ∃ its : List Value, Vals xs its ∧ AtB b s.heap a its.toArray ∧ a < s.heap.objs.size := by
  cases b with
  | true =>
    obtain ⟨its, rv, p, _⟩ := I.list h
    exact ⟨its, rv, p.isList, p.lt⟩
  | false =>
    obtain ⟨its, rv, p, _⟩ := I.tuple h
    have hp : s.heap.IsTuple a its.toArray := p
    obtain ⟨o, ho, _⟩ := id p
    exact ⟨its, rv, hp, Heap.lt_size ho⟩
theorem SqB.inj (I : Inv X pins σ H s) (h : SqB b X.K H a xs) (h' : SqB b X.K H a ys) : xs = ys := by
  cases b with
  | true => exact I.list_inj h h'
  | false => exact I.tuple_inj h h'
end
def ItzB (b1 b2 : Bool) (K : PySem.W.Frag) (a b : Addr) : It :=
  ⟨fun i H => ∃ (xs ys : List V) (x y : V), SqB b1 K H a xs ∧ SqB b2 K H b ys ∧ xs[i]? = some x ∧ ys[i]? = some y,
    fun i H v H' => ∃ T x y, v = .ref T ∧ H T = none ∧ H' = upd H T (.tup [x, y]) ∧ (∀ xs, SqB b1 K H a xs → xs[i]? = some x) ∧ ∀ ys, SqB b2 K H b ys → ys[i]? = some y,
    fun i H => ∃ xs ys : List V, SqB b1 K H a xs ∧ SqB b2 K H b ys ∧ i ≤ xs.length ∧ i ≤ ys.length ∧ (i = xs.length ∨ i = ys.length)⟩
theorem turn_zipB {P : Program} {w : World} {K : PySem.W.Frag} {elts : List Expr} {kk : Nat} {tpos : Pos} {b1 b2 : Bool} {a b z TI TO i1 i2 : Addr} (S : ZipSep2 z TI TO i1 i2 [i1, a] [i2, b]) (n1 : a ≠ i1) (n2 : b ≠ i2) :
    Turn P w K (.Tuple elts kk tpos) (ItzB b1 b2 K a b) [z, TI, TO, i1, i2] z (fun i h => IsZip h z TI TO .none ∧ IsTupOf2 h TI (.ref i1) (.ref i2) ∧ (∃ x y, IsTupOf2 h TO x y) ∧ ItB b1 h i1 a i ∧ ItB b2 h i2 b i) where
  mem := by simp
  obj := fun i h st c hc => by
    obtain ⟨hz, hTI, ⟨x, y, hTO⟩, h1, h2⟩ := st
    have e' : c = z ∨ c = TI ∨ c = TO ∨ c = i1 ∨ c = i2 := by simpa using hc
    rcases e' with q | q | q | q | q
    · rw [q]; exact ⟨_, hz, fun v q => nomatch q⟩
    · rw [q]; exact ⟨_, hTI, fun v q => nomatch q⟩
    · rw [q]; exact ⟨_, hTO, fun v q => nomatch q⟩
    · rw [q]; exact h1.obj
    · rw [q]; exact h2.obj
  keep := fun i h h' st k => by
    obtain ⟨hz, hTI, ⟨x, y, hTO⟩, h1, h2⟩ := st
    exact ⟨k z (by simp) _ hz, k TI (by simp) _ hTI, ⟨x, y, k TO (by simp) _ hTO⟩, h1.at fun o q => k i1 (by simp) o q, h2.at fun o q => k i2 (by simp) o q⟩
  item := by
    intro X hP hw hK hc i pins s σ H E I hf st hg
    subst hP hw hK
    obtain ⟨hz, hTI, ⟨x0, y0, hTO⟩, h1, h2⟩ := st
    obtain ⟨xs, ys, x, y, hqx, hqy, hx, hy⟩ := hg
    obtain ⟨its, rv, p, _⟩ := hqx.seq I
    obtain ⟨its2, rv2, p2, _⟩ := hqy.seq I
    obtain ⟨u, hu, ru⟩ := rv.get hx
    obtain ⟨u2, hu2, ru2⟩ := rv2.get hy
    have hzl : z < s.heap.objs.size := Heap.lt_size hz
    have D1 := drawsB (prog := X.prog) (w := X.w) (A := X.A.in1) b1 (I.ok.hd hc) i1 a n1 its.toArray
    have D2 := drawsB (prog := X.prog) (w := X.w) (A := X.A.in1) b2 (I.ok.hd hc) i2 b n2 its2.toArray
    have lt1 : i < its.toArray.size := by have := (List.getElem?_eq_some_iff.mp hu).1; simpa using this
    have lt2 : i < its2.toArray.size := by have := (List.getElem?_eq_some_iff.mp hu2).1; simpa using this
    refine wpAny_pyNext_zipD2_item S D1 D2 hz hTI hTO ⟨h1, p⟩ ⟨h2, p2⟩ lt1 lt2 fun v1 v2 h' tk e1 e2 z' TO' st1 st2 hT hsz hk => ?_
    have eu : v1 = u := by
      rw [List.getElem?_toArray, hu] at e1
      exact (Option.some.inj e1).symm
    have eu2 : v2 = u2 := by
      rw [List.getElem?_toArray, hu2] at e2
      exact (Option.some.inj e2).symm
    subst eu eu2
    refine ⟨_, rfl, wpAny_letOwnedTupleGo_zip (s := { s with heap := h', toks := tk }) z' fun h'' z'' sb => ?_⟩
    have hT2 : h''.get? s.heap.objs.size = some { cls := .type "tuple", data := .seq #[v1, v2] } := (sb.2 _ (Nat.ne_of_gt hzl)).trans hT
    have new : ObjOk X.prog X.w (upd H s.heap.objs.size (.tup [x, y])) h'' s.heap.objs.size (.tup [x, y]) :=
      ⟨by show 2 ≤ sizeLine; decide, [v1, v2], .cons ru (.cons ru2 .nil), ⟨_, hT2, rfl, _, rfl⟩⟩
    have I1 : Inv X pins σ (upd H s.heap.objs.size (.tup [x, y])) { s with heap := h'', toks := tk } :=
      I.turnedNew (t' := tk) (ch := [z, TI, TO, i1, i2]) (fun c o hb q => (sb.2 c (fun q' => hb (by simp [q']))).trans (hk c o (fun q' => hb (by simp [q'])) (fun q' => hb (by simp [q'])) (fun q' => hb (by simp [q'])) (fun q' => hb (by simp [q'])) q)) hf (Nat.le_refl _) new
    refine ⟨.ref s.heap.objs.size, _, I1, rfl, ⟨_, x, y, rfl, I.hok.fresh (Nat.le_refl _), rfl, fun l hl => by rw [hl.inj I hqx]; exact hx, fun l hl => by rw [hl.inj I hqy]; exact hy⟩, ⟨z'', ?_, ⟨v1, v2, ?_⟩, ?_, ?_⟩, fun c hcm => ?_⟩
    · exact (sb.2 _ S.TIz).trans (hk _ _ S.TIz S.TITO S.TIi1 S.TIi2 hTI)
    · exact (sb.2 _ S.TOz).trans TO'
    · exact st1.1.at fun o q => (sb.2 _ (Ne.symm S.zi1)).trans q
    · exact st2.1.at fun o q => (sb.2 _ (Ne.symm S.zi2)).trans q
    · have hlt : c < s.heap.objs.size := by
        have e' : c = z ∨ c = TI ∨ c = TO ∨ c = i1 ∨ c = i2 := by simpa using hcm
        rcases e' with q | q | q | q | q
        · rw [q]; exact hzl
        · rw [q]; exact Heap.lt_size hTI
        · rw [q]; exact Heap.lt_size hTO
        · rw [q]; obtain ⟨_, e1, _⟩ := h1.obj; exact Heap.lt_size e1
        · rw [q]; obtain ⟨_, e2, _⟩ := h2.obj; exact Heap.lt_size e2
      rw [upd_ne (Nat.ne_of_lt hlt)]
      exact (hf c hcm).1
  done := by
    intro X hP hw hK hc i pins s σ H E I hf st hg
    subst hP hw hK
    obtain ⟨hz, hTI, ⟨x0, y0, hTO⟩, h1, h2⟩ := st
    obtain ⟨xs, ys, hqx, hqy, le1, le2, hend⟩ := hg
    obtain ⟨its, rv, p, _⟩ := hqx.seq I
    obtain ⟨its2, rv2, p2, _⟩ := hqy.seq I
    have l1 := rv.length
    have l2 := rv2.length
    have D1 := drawsB (prog := X.prog) (w := X.w) (A := X.A.in1) b1 (I.ok.hd hc) i1 a n1 its.toArray
    have D2 := drawsB (prog := X.prog) (w := X.w) (A := X.A.in1) b2 (I.ok.hd hc) i2 b n2 its2.toArray
    exact wpAny_pyNext_zipD2_end S D1 D2 hz hTI hTO ⟨h1, p⟩ ⟨h2, p2⟩ (by simp; omega) (by simp; omega) (by simp; omega) fun h' tk hk => ⟨rfl, I.turnedL (t' := tk) (ch := [z, TI, TO, i1, i2]) (fun c o hb q =>
      hk c o (fun q' => hb (by simp [q'])) (fun q' => hb (by simp [q'])) (fun q' => hb (by simp [q'])) (fun q' => hb (by simp [q'])) q) hf⟩
  self := fun A i s Q E st h => wpAny_pyIter_zip st.1 h
def iZipB (b1 b2 : Bool) (K : PySem.W.Frag) (ta : TA) : TI := fun σ H R => ta σ H fun vs H1 => ∃ a b xs ys, vs = [.ref a, .ref b] ∧ SqB b1 K H1 a xs ∧ SqB b2 K H1 b ys ∧ R (ItzB b1 b2 K a b) H1
theorem pi_zipB {X : Cx} {b1 b2 : Bool} {e e2 : Expr} {ta : TA} {p pos tpos : Pos} {elts : List Expr} {kk : Nat} (hg : Gl X "zip") (hm : X.mg "zip" = none) (ha : PA X [e, e2] ta)
    (hs : starEach [e, e2] X.env = (false, eval e X.env) :: starEach [e2] X.env := by rfl) (hpl : (backTo pos (starEach [e2] X.env)).any (·.1) = false := by rfl) :
    PI X (.Tuple elts kk tpos) (.Call (.Name "zip" p) [e, e2] [] pos) (iZipB b1 b2 X.K ta) := by
  refine ⟨fun pins s σ H R I h => ?_⟩
  refine Call_ (ld_blt I hg hm PyProof.Rows.boot_zip (PyProof.Rows.callWith_type1 (thn (ha.run pos pins s σ H _ I h) fun us s1 ⟨vs, H1, I1, r1, q1⟩ => ?_) hs hpl))
  obtain ⟨a, b, xs, ys, ex, hqx, hqy, q⟩ := q1
  subst ex
  cases r1 with
  | cons r rr =>
    cases rr with
    | cons r' rr =>
      cases rr
      cases r
      cases r'
      obtain ⟨its, rv, p1, la⟩ := hqx.seq I1
      obtain ⟨its2, rv2, p2, lb⟩ := hqy.seq I1
      refine zip_begins2 (beginsB b1 a its.toArray) (beginsB b2 b its2.toArray) p1 p2 fun h' hz hTI hTO h1 h2 hsz hk => wpAny_pyIter_zip hz ?_
      have I2 : Inv X pins σ H1 { s1 with heap := h' } := I1.kept (t' := s1.toks) hk
      have S := zip_sep2 (N := s1.heap.objs.size) (fp1 := [a]) (fp2 := [b]) (by simpa using la) (by simpa using lb)
      refine ⟨s1.heap.objs.size + 4, [s1.heap.objs.size + 4, s1.heap.objs.size + 2, s1.heap.objs.size + 3, s1.heap.objs.size, s1.heap.objs.size + 1], _, _, H1, rfl, I2, turn_zipB S (Nat.ne_of_lt la) (Nat.ne_of_lt (Nat.lt_succ_of_lt lb)), ⟨hz, hTI, ⟨_, _, hTO⟩, .new h1, .new h2⟩, fun c hcm => ?_, q⟩
      have e' : c = s1.heap.objs.size + 4 ∨ c = s1.heap.objs.size + 2 ∨ c = s1.heap.objs.size + 3 ∨ c = s1.heap.objs.size ∨ c = s1.heap.objs.size + 1 := by simpa using hcm
      have hle : s1.heap.objs.size ≤ c := by
        rcases e' with z | z | z | z | z
        · rw [z]; exact Nat.le_add_right _ _
        · rw [z]; exact Nat.le_add_right _ _
        · rw [z]; exact Nat.le_add_right _ _
        · rw [z]; exact Nat.le_refl _
        · rw [z]; exact Nat.le_add_right _ _
      exact I1.fpOk hle (I1.hok.fresh hle)
/-! ### over the hidden heap -/
section
variable {F : Fr} {X : Cx} {ρ : Env1} {a b e : Expr} {elts : List Expr} {kk : Nat} {tpos pos p : Pos} {Φ : List Dat → Prop}
def enumD (ds : List Dat) : List Dat := (List.range ds.length).zipWith (fun (i : Nat) d => Dat.tup [.int (i : Int), d]) ds
theorem enumD_len (ds : List Dat) : (enumD ds).length = ds.length := by unfold enumD; simp
theorem enumD_get {ds : List Dat} {i : Nat} {d : Dat} (h : ds[i]? = some d) : (enumD ds)[i]? = some (.tup [.int (i : Int), d]) := by
  have hi := (List.getElem?_eq_some_iff.mp h).1
  unfold enumD
  rw [List.getElem?_zipWith, List.getElem?_range hi, h]
theorem ei_enum (hg : Gl X "enumerate") (hm : X.mg "enumerate" = none) (h : EC F X e ρ fun w => ∃ ds, w = .d (.tup ds) ∧ Φ (enumD ds)) (hs : starEach [e] X.env = (false, eval e X.env) :: starEach [] X.env := by rfl) : EI F X (.Tuple elts kk tpos) (.Call (.Name "enumerate" p) [e] [] pos) ρ Φ :=
  ⟨_, pi_enumT hg hm (pa_cons (cE.pe X e) pa_nil hs) (hs := hs), fun H0 H σ k R r => h.run k fun v H1 w e1 k1 r1 ⟨ds, ew, p⟩ => by
    subst ew
    have r1' : Rep H1 v (.tup ds) := r1
    cases r1' with
    | @tup q vs _ h1 h2 =>
      refine ⟨q, vs, rfl, SqT.of h1, r _ H1 (enumD ds) (fun H => H q = some (.tup vs) ∧ Reps H vs ds) e1 k1.inv p ⟨fun i H hi g => ?_, fun H g => ?_, fun i H x H' hi g inv y => ?_⟩ ⟨h1, h2⟩ fun H2 t f => ⟨t _ _ h1, h2.mono t⟩⟩
      · rw [enumD_len, ← g.2.length] at hi
        exact ⟨vs, vs[i], SqT.of g.1, by simp [hi]⟩
      · exact ⟨vs, SqT.of g.1, by rw [enumD_len, g.2.length]⟩
      · obtain ⟨T, x', rfl, hT, rfl, hx⟩ := y
        obtain ⟨d, hd, rd⟩ := g.2.getV (hx vs (SqT.of g.1))
        exact ⟨.new hT, inv_new inv hT, _, enumD_get hd, .tup upd_same (.cons (.int _) (.cons (rd.mono (Ext.new (F := F) hT).tup) .nil))⟩⟩
def zipD (ds es : List Dat) : List Dat := ds.zipWith (fun d e => Dat.tup [d, e]) es
theorem zipD_len (ds es : List Dat) : (zipD ds es).length = min ds.length es.length := by unfold zipD; simp
theorem zipD_get {ds es : List Dat} {i : Nat} {d e : Dat} (h : ds[i]? = some d) (h2 : es[i]? = some e) : (zipD ds es)[i]? = some (.tup [d, e]) := by
  unfold zipD
  rw [List.getElem?_zipWith, h, h2]
/-- zip of two tuples -/
theorem ei_zipT (hg : Gl X "zip") (hm : X.mg "zip" = none) (h : EC F X a ρ fun w1 => ∃ ds, w1 = .d (.tup ds) ∧ EC F X b ρ fun w2 => ∃ es, w2 = .d (.tup es) ∧ ds.length = es.length ∧ Φ (zipD ds es))
    (hs : starEach [a, b] X.env = (false, eval a X.env) :: starEach [b] X.env := by rfl) (hs2 : starEach [b] X.env = (false, eval b X.env) :: starEach [] X.env := by rfl) (hpl : (backTo pos (starEach [b] X.env)).any (·.1) = false := by rfl) :
    EI F X (.Tuple elts kk tpos) (.Call (.Name "zip" p) [a, b] [] pos) ρ Φ :=
  ⟨_, pi_zipB (b1 := false) (b2 := false) hg hm (pa_cons (cE.pe X a) (pa_cons (cE.pe X b) pa_nil hs2) hs) hs hpl, fun H0 H σ k R r => h.run k fun v1 H1 w1 e1 k1 r1 ⟨ds, ew1, p1⟩ => p1.run k1 fun v2 H2 w2 e2 k2 r2 ⟨es, ew2, hl, p2⟩ => by
    subst ew1; subst ew2
    have r1' : Rep H2 v1 (.tup ds) := Rep.mono e2.tup r1
    have r2' : Rep H2 v2 (.tup es) := r2
    cases r1' with
    | @tup q vs _ h1 h2 =>
      cases r2' with
      | @tup q' us _ h1' h2' =>
        refine ⟨q, q', vs, us, rfl, SqT.of h1, SqT.of h1', r _ H2 (zipD ds es) (fun H => (H q = some (.tup vs) ∧ Reps H vs ds) ∧ H q' = some (.tup us) ∧ Reps H us es) (e1.trans e2) k2.inv p2 ⟨fun i H hi g => ?_, fun H g => ?_, fun i H x H' hi g inv y => ?_⟩ ⟨⟨h1, h2⟩, h1', h2'⟩ fun H2 t f => ⟨⟨t _ _ h1, h2.mono t⟩, t _ _ h1', h2'.mono t⟩⟩
        · rw [zipD_len] at hi
          have i1 : i < vs.length := by rw [g.1.2.length]; omega
          have i2 : i < us.length := by rw [g.2.2.length]; omega
          exact ⟨vs, us, vs[i], us[i], SqT.of g.1.1, SqT.of g.2.1, by simp [i1], by simp [i2]⟩
        · have a1 := g.1.2.length
          have a2 := g.2.2.length
          rw [zipD_len]
          exact ⟨vs, us, SqT.of g.1.1, SqT.of g.2.1, by omega, by omega, by omega⟩
        · obtain ⟨T, x1, x2, rfl, hT, rfl, hx, hy⟩ := y
          obtain ⟨d, hd, rd⟩ := g.1.2.getV (hx vs (SqT.of g.1.1))
          obtain ⟨d', hd', rd'⟩ := g.2.2.getV (hy us (SqT.of g.2.1))
          have tk := (Ext.new (F := F) (o := .tup [x1, x2]) hT).tup
          exact ⟨.new hT, inv_new inv hT, _, zipD_get hd hd', .tup upd_same (.cons (rd.mono tk) (.cons (rd'.mono tk) .nil))⟩⟩
/-- zip of a tuple and a name's list that is not written meanwhile -/
theorem ei_zipTV {i : Nat} {x : Str} {pb : Pos} {es : List Dat} (hg : Gl X "zip") (hm : X.mg "zip" = none) (hi : X.N[i]? = some x) (hv : Vis X.env.scope x) (hw : ρ[i]? = some (some (.lst false es))) (h : EC F X a ρ fun w1 => ∃ ds, w1 = .d (.tup ds) ∧ ds.length = es.length ∧ Φ (zipD ds es))
    (hd : (x == ("__debug__" : Str)) = false := by decide) (hcd : (x == ("__classdict__" : Str)) = false := by decide)
    (hs : starEach [a, .Name x pb] X.env = (false, eval a X.env) :: starEach [.Name x pb] X.env := by rfl) (hs2 : starEach [.Name x pb] X.env = (false, eval (.Name x pb) X.env) :: starEach [] X.env := by rfl) (hpl : (backTo pos (starEach [.Name x pb] X.env)).any (·.1) = false := by rfl) :
    EI F X (.Tuple elts kk tpos) (.Call (.Name "zip" p) [a, .Name x pb] [] pos) ρ Φ :=
  ⟨_, pi_zipB (b1 := false) (b2 := true) hg hm (pa_cons (cE.pe X a) (pa_cons (pe_var hi hv hd hcd) pa_nil hs2) hs) hs hpl, fun H0 H σ k R r => h.run k fun v1 H2 w1 e1 k2 r1 ⟨ds, ew1, hl, p2⟩ => by
    subst ew1
    have r1' : Rep H2 v1 (.tup ds) := r1
    obtain ⟨q', us, s1, h1', h2', nm, own⟩ := k2.list hw
    have fr : Free σ ρ q' := fun j w hj ho hs => by
      by_cases hji : j = i
      · subst hji
        rw [hw] at hj
        cases hj
        cases ho
      · exact k2.sep j i w _ q' hji hj hw ho rfl hs s1
    cases r1' with
    | @tup q vs _ h1 h2 =>
      refine ⟨_, s1, q, q', vs, us, rfl, SqT.of h1, SqL.of h1', r _ H2 (zipD ds es) (fun H => (H q = some (.tup vs) ∧ Reps H vs ds) ∧ H q' = some (.lst us) ∧ Reps H us es) e1 k2.inv p2 ⟨fun i H hi g => ?_, fun H g => ?_, fun i H x H' hi g inv y => ?_⟩ ⟨⟨h1, h2⟩, h1', h2'⟩ fun H2 t f => ⟨⟨t _ _ h1, h2.mono t⟩, f q' _ nm h1' fr, h2'.mono t⟩⟩
      · rw [zipD_len] at hi
        have i1 : i < vs.length := by rw [g.1.2.length]; omega
        have i2 : i < us.length := by rw [g.2.2.length]; omega
        exact ⟨vs, us, vs[i], us[i], SqT.of g.1.1, SqL.of g.2.1, by simp [i1], by simp [i2]⟩
      · have a1 := g.1.2.length
        have a2 := g.2.2.length
        rw [zipD_len]
        exact ⟨vs, us, SqT.of g.1.1, SqL.of g.2.1, by omega, by omega, by omega⟩
      · obtain ⟨T, x1, x2, rfl, hT, rfl, hx, hy⟩ := y
        obtain ⟨d, hd, rd⟩ := g.1.2.getV (hx vs (SqT.of g.1.1))
        obtain ⟨d', hd', rd'⟩ := g.2.2.getV (hy us (SqL.of g.2.1))
        have tk := (Ext.new (F := F) (o := .tup [x1, x2]) hT).tup
        exact ⟨.new hT, inv_new inv hT, _, zipD_get hd hd', .tup upd_same (.cons (rd.mono tk) (.cons (rd'.mono tk) .nil))⟩⟩
end
/-- reading only: an own list taken as one that is not written -/
def frz (ρ : Env1) (i : Nat) : Env1 := match ρ[i]? with | some (some w) => ρ.set i (some w.rd) | _ => ρ
theorem Kn.frz {F : Fr} {H0 H : Hp} {σ : L2.St} {ρ : Env1} (k : Kn F H0 H σ ρ) (i : Nat) : Kn F H0 H σ (Md.frz ρ i) := by
  unfold Md.frz
  split
  · rename_i w hi
    have hl : i < ρ.length := (List.getElem?_eq_some_iff.mp hi).1
    have pick : ∀ (j : Nat) (u : W), (ρ.set i (some w.rd))[j]? = some (some u) → (j = i ∧ u = w.rd) ∨ (j ≠ i ∧ ρ[j]? = some (some u)) := fun j u h => by
      by_cases hj : j = i
      · subst hj
        rw [List.getElem?_set_self hl] at h; cases h; exact .inl ⟨rfl, rfl⟩
      · exact .inr ⟨hj, by rwa [List.getElem?_set_ne (Ne.symm hj)] at h⟩
    refine ⟨k.ext, k.inv, by simp [k.len], fun j u h => ?_, fun x y u u' z ne hx hy h1 h2 h3 h4 => ?_⟩
    · rcases pick j u h with ⟨rfl, rfl⟩ | ⟨n, h'⟩
      · obtain ⟨v, h1, h2⟩ := k.get j w hi
        exact ⟨v, h1, h2.rd⟩
      · exact k.get j u h'
    · have norw : w.rd.own = false := by cases w <;> rfl
      rcases pick x u hx with ⟨rfl, rfl⟩ | ⟨n, hx'⟩
      · rw [norw] at h1; cases h1
      · rcases pick y u' hy with ⟨rfl, rfl⟩ | ⟨n', hy'⟩
        · exact k.sep x y u w z ne hx' hi h1 (by cases w <;> first | rfl | cases h2) h3 h4
        · exact k.sep x y u u' z ne hx' hy' h1 h2 h3 h4
  · exact k
theorem EC.frz {F : Fr} {X : Cx} {e : Expr} {ρ : Env1} {Φ : W → Prop} (i : Nat) (h : EC F X e (Md.frz ρ i) Φ) : EC F X e ρ Φ := fun H0 H σ k Q q => h H0 H σ (k.frz i) Q q
end Md
end MdJPart
section MdKPart
set_option Elab.async false
set_option linter.all false
set_option maxRecDepth 100000
set_option maxHeartbeats 4000000
/-! More rules: replication, slices, sets, repr, dicts, keyword calls. -/
namespace L2
open PySem PySem.Spec PyProof.Rows
open AutoSeq1 (wpAny_loadPart')
theorem tuple_mul1 (l : Addr) (items : Array Value) (n : Nat) (dd : Option Addr) (sl : Array (Option Value)) (u : Tok) :
    Meets (Builtin.«tuple.__mul__» ⟨[.ref l, .int 1 u], []⟩) (fun _ R s => s.heap.get? l = some { cls := .type "tuple", dict := dd, data := .seq items n, slots := sl } ∧ R (.ok (.ret (Value.ref l))) s) :=
  .of_wp fun prog w A R s h => by
    obtain ⟨hp, g, d, tk, os⟩ := s
    obtain ⟨hl, h⟩ := h
    wp_walk using wpAny_loadPart' hl
    exact ⟨_, rfl, h⟩
/-- a tuple times 1 is itself -/
def rRepT1 (K : PySem.W.Frag) : R2 := fun x y H Q => ∃ l xs, x = .ref l ∧ y = .int 1 ∧ SqT K H l xs ∧ Q (.ref l) H
theorem op_repT1 {X : Cx} : OpR X (binaryOp .Mult) (rRepT1 X.K) := by
  intro pins s σ H x y v u Q I rx ry h
  obtain ⟨l, xs, rfl, rfl, hT, q⟩ := h
  cases rx
  obtain ⟨t, rfl⟩ := ry
  obtain ⟨its, r, ⟨⟨cls, dd, data, sl⟩, ho, hc, n, hd⟩, hs⟩ := I.tuple hT
  simp only at hc hd
  subst hc hd
  refine wpAny_binaryOp_repeat_ref (T := "tuple") (U := "int") (by decide) ⟨_, ho, rfl⟩ (fun s' => typeIs_int s' 1 t) noFill_tuple_mul F.fills_int_mul F.slot_int_rmul repeat_tuple F.slot_int_index.lookup
    (call_meets F.slot_int_rmul (typeIs_int s 1 t) F.entry_int_rmul (F.args_int_rmul_2 _ _) (int_rmul_tuple 1 t l its.toArray n dd sl)
      ⟨ho, rfl, ⟨_, ho, rfl⟩, call_meets F.slot_tuple_mul ⟨_, ho, rfl⟩ F.entry_tuple_mul (F.args_tuple_mul_2 _ _) (tuple_mul1 l its.toArray n dd sl t) ⟨ho, ⟨.ref l, H, I, rfl, q⟩⟩⟩)
end L2
namespace Md
open PySem L2
theorem flat_rep1 {α : Type} (k : Nat) (x : α) : (List.replicate k [x]).flatten = List.replicate k x := by
  induction k with
  | zero => rfl
  | succ k ih => rw [List.replicate_succ, List.flatten_cons, ih, List.replicate_succ]; rfl
theorem reps_rep {H : Hp} {v : V} {d : Dat} (r : Rep H v d) : ∀ k : Nat, Reps H (List.replicate k v) (List.replicate k d)
  | 0 => .nil
  | k + 1 => by rw [List.replicate_succ, List.replicate_succ]; exact .cons r (reps_rep r k)
section
variable {F : Fr} {X : Cx} {ρ : Env1} {H0 H H1 H2 : Hp} {σ : L2.St} {a b c e : Expr} {es : List Expr} {pos p : Pos} {v : V} {w : W}
/-- [x] * k -/
theorem ec_repL {Φ : W → Prop} (h : EC F X a ρ fun wa => ∃ o d, wa = .lst o [d] ∧ EC F X b ρ fun wb => ∃ k : Int, wb = .d (.int k) ∧ 0 ≤ k ∧ k ≤ 1000 ∧ Φ (.lst true (List.replicate k.toNat d))) : EC F X (.BinOp a .Mult b pos) ρ Φ :=
  ec_op op_rep (h.to fun wa ⟨o, d, ea, h2⟩ => h2.to fun wb ⟨k, eb, k0, k1, p⟩ H H1 va vb Q i1 r1 r2 q => by
    subst ea; subst eb; cases r2
    obtain ⟨x, vs, rfl, x2, x3, _⟩ := r1
    cases x3 with
    | @cons v _ _ _ rv rest =>
      cases rest
      have hsz : (1000 : Nat) ≤ sizeLine := by decide
      refine ⟨x, k, [v], rfl, rfl, x2, by omega, by omega, by simp; omega, fun pp hp => ?_⟩
      rw [flat_rep1]
      exact q _ _ _ (Ext.new hp) (inv_new i1 hp) (repL_new i1 hp (reps_rep rv _)) p)
/-- (x,) * k, k from 1 on -/
theorem ec_repT {Φ : W → Prop} (h : EC F X a ρ fun wa => ∃ d, wa = .d (.tup [d]) ∧ EC F X b ρ fun wb => ∃ k : Int, wb = .d (.int k) ∧ 1 ≤ k ∧ k ≤ 1000 ∧ Φ (.d (.tup (List.replicate k.toNat d)))) : EC F X (.BinOp a .Mult b pos) ρ Φ :=
  ec_op (op_repT1.or op_repT) (h.to fun wa ⟨d, ea, h2⟩ => h2.to fun wb ⟨k, eb, k0, k1, p⟩ H H1 va vb Q i1 r1 r2 q => by
    subst ea; subst eb; cases r2
    have r1' : Rep H1 va (.tup [d]) := r1
    cases r1' with
    | @tup x vs _ x2 x3 =>
      by_cases hk : k = 1
      · subst hk
        exact .inl ⟨x, vs, rfl, rfl, SqT.of x2, q _ H1 _ (.refl F H1) i1 (repD (.tup x2 x3)) p⟩
      · cases x3 with
        | @cons v _ _ _ rv rest =>
          cases rest
          refine .inr ⟨x, k, [v], rfl, rfl, SqT.of x2, by simp, by omega, k1, by simp, fun pp hp => ?_⟩
          rw [flat_rep1]
          exact q _ _ _ (Ext.new hp) (inv_new i1 hp) (repD (.tup upd_same ((reps_rep rv _).mono (Ext.new (F := F) hp).tup))) p)
/-- list + list, tuple + tuple -/
theorem ec_catL {Φ : W → Prop} (h : EC F X a ρ fun wa => ∃ o ds, wa = .lst o ds ∧ EC F X b ρ fun wb => ∃ o' es, wb = .lst o' es ∧ ds.length + es.length ≤ 100000 ∧ Φ (.lst true (ds ++ es))) : EC F X (.BinOp a .Add b pos) ρ Φ :=
  ec_op op_cat (h.to fun wa ⟨o, ds, ea, h2⟩ => h2.to fun wb ⟨o', es, eb, hl, p⟩ H H1 va vb Q i1 r1 r2 q => by
    subst ea; subst eb
    obtain ⟨x, vs, rfl, x2, x3, _⟩ := r1
    obtain ⟨y, us, rfl, y2, y3, _⟩ := r2
    refine ⟨x, y, vs, us, rfl, rfl, x2, y2, by rw [x3.length, y3.length]; exact Nat.le_trans hl (by decide), fun pp hp => ?_⟩
    exact q _ _ _ (Ext.new hp) (inv_new i1 hp) (repL_new i1 hp (x3.append y3)) p)
/-- tuple + tuple -/
theorem ec_catT {Φ : W → Prop} (h : EC F X a ρ fun wa => ∃ ds, wa = .d (.tup ds) ∧ EC F X b ρ fun wb => ∃ es, wb = .d (.tup es) ∧ ds.length + es.length ≤ 100000 ∧ Φ (.d (.tup (ds ++ es)))) : EC F X (.BinOp a .Add b pos) ρ Φ :=
  ec_op op_catA (h.to fun wa ⟨ds, ea, h2⟩ => h2.to fun wb ⟨es, eb, hl, p⟩ H H1 va vb Q i1 r1 r2 q => by
    subst ea; subst eb
    have r1' : Rep H1 va (.tup ds) := r1
    have r2' : Rep H1 vb (.tup es) := r2
    cases r1' with
    | @tup x vs _ x2 x3 =>
      cases r2' with
      | @tup y us _ y2 y3 =>
        refine ⟨x, y, vs, us, rfl, rfl, SqT.of x2, SqT.of y2, by rw [x3.length, y3.length]; exact Nat.le_trans hl (by decide), fun z => ?_, fun _ z => ?_, fun _ _ pp hp => ?_⟩
        · subst z; cases x3
          exact q _ H1 _ (.refl F H1) i1 (repD (.tup y2 y3)) p
        · subst z; cases y3
          rw [List.append_nil] at p
          exact q _ H1 _ (.refl F H1) i1 (repD (.tup x2 x3)) p
        · exact q _ _ _ (Ext.new hp) (inv_new i1 hp) (repD (.tup upd_same ((x3.append y3).mono (Ext.new (F := F) hp).tup))) p)
/-- xs[lo:hi] of a list -/
theorem ec_sliceTo {hi : Expr} {Φ : W → Prop} {p2 : Pos} (h : EC F X a ρ fun wa => ∃ o ds, wa = .lst o ds ∧ EC F X hi ρ fun wb => ∃ k : Int, wb = .d (.int k) ∧ Φ (.lst true (ds.take (HT.sIx ds.length ds.length (some k))))) : EC F X (.Subscript a (.Slice none (some hi) none p2) pos) ρ Φ := fun H0 H σ k Q q =>
  PE.c (pe_slice sl_list (cE.pe X a) po_none (po_some (cE.pe X hi))) (h.run k fun va H1 wa e1 k1 r1 ⟨o, ds, ew, p1⟩ => p1.run k1 fun vb H2 wb e2 k2 r2 ⟨n, ew2, p2⟩ => by
    subst ew; subst ew2; cases r2
    obtain ⟨x, vs, rfl, x2, x3, x4, _⟩ := r1.step e2
    refine ⟨n, rfl, x, vs, rfl, SqL.of x2, fun pp hp => ?_⟩
    have e : cutV vs none (some n) = vs.take (HT.sIx ds.length ds.length (some n)) := by
      unfold cutV
      rw [x3.length]
      simp [HT.sIx_none]
    rw [e]
    exact q _ _ _ ((e1.trans e2).trans (Ext.new hp)) (inv_new k2.inv hp) ((repL_new k2.inv hp (x3.take _)).back (e1.trans e2)) p2)
theorem ec_sliceFrom {lo : Expr} {Φ : W → Prop} {p2 : Pos} (h : EC F X a ρ fun wa => ∃ o ds, wa = .lst o ds ∧ EC F X lo ρ fun wb => ∃ k : Int, wb = .d (.int k) ∧ Φ (.lst true (ds.drop (HT.sIx ds.length 0 (some k))))) : EC F X (.Subscript a (.Slice (some lo) none none p2) pos) ρ Φ := fun H0 H σ k Q q =>
  PE.c (pe_slice sl_list (cE.pe X a) (po_some (cE.pe X lo)) po_none) (h.run k fun va H1 wa e1 k1 r1 ⟨o, ds, ew, p1⟩ => p1.run k1 fun vb H2 wb e2 k2 r2 ⟨n, ew2, p2⟩ => by
    subst ew; subst ew2; cases r2
    obtain ⟨x, vs, rfl, x2, x3, x4, _⟩ := r1.step e2
    refine ⟨n, rfl, x, vs, rfl, SqL.of x2, fun pp hp => ?_⟩
    have e : cutV vs (some n) none = vs.drop (HT.sIx ds.length 0 (some n)) := by
      unfold cutV
      rw [x3.length, HT.sIx_none]
      exact List.take_of_length_le (by rw [List.length_drop, x3.length]; exact Nat.le_refl _)
    rw [e]
    exact q _ _ _ ((e1.trans e2).trans (Ext.new hp)) (inv_new k2.inv hp) ((repL_new k2.inv hp (x3.drop _)).back (e1.trans e2)) p2)
/-- xs[::-1] -/
theorem ec_rev {Φ : W → Prop} {kk : Nat} {p1 p2 p3 : Pos} (h : EC F X a ρ fun wa => ∃ o ds, wa = .lst o ds ∧ Φ (.lst true ds.reverse)) : EC F X (.Subscript a (.Slice none none (some (.UnaryOp .USub (.Constant (.int 1) kk p1) p2)) p3) pos) ρ Φ := fun H0 H σ k Q q =>
  PE.c (pe_revL (cE.pe X a)) (h.run k fun va H1 wa e1 k1 r1 ⟨o, ds, ew, p1⟩ => by
    subst ew
    obtain ⟨x, vs, rfl, x2, x3, x4, _⟩ := r1
    exact ⟨x, vs, rfl, SqL.of x2, fun pp hp => q _ _ _ (e1.trans (Ext.new hp)) (inv_new k1.inv hp) ((repL_new k1.inv hp x3.reverse).back e1) p1⟩)
/-- len(set(xs)), all unlike -/
theorem ec_lenset {Φ : W → Prop} {p2 q : Pos} (hc : X.calm = true) (hg : Gl X "len") (hm : X.mg "len" = none) (hg2 : Gl X "set") (hm2 : X.mg "set" = none) (h : EC F X a ρ fun wa => ∃ (o : Bool) (ns : List Int), wa = .lst o (ns.map Dat.int) ∧ ns.Nodup ∧ ns.length ≤ 4000 ∧ Φ (.d (.int (ns.length : Int))))
    (na : starEach [a] X.env = (false, eval a X.env) :: starEach [] X.env := by rfl) : EC F X (.Call (.Name "len" p) [.Call (.Name "set" p2) [a] [] q] [] pos) ρ Φ := fun H0 H σ k Q qq =>
  PE.c (RZ.pe_lenSetI hg hm hg2 hm2 (cE.pe X a) hc na) (h.run k fun va H1 wa e1 k1 r1 ⟨o, ns, ew, nd, hl, p1⟩ => by
    subst ew
    obtain ⟨x, vs, rfl, x2, x3, x4, _⟩ := r1
    cases x3.ints
    exact ⟨x, ns, rfl, SqL.of x2, nd, hl, qq _ H1 _ e1 k1.inv (repD (.int _)) p1⟩)
/-- list(range(n)) -/
theorem ec_listR {n : Expr} {p2 q : Pos} {Φ : W → Prop} (hc : X.calm = true) (hg : Gl X "list") (hm : X.mg "list" = none) (hg2 : Gl X "range") (hm2 : X.mg "range" = none) (h : EC F X n ρ fun w => ∃ m : Int, w = .d (.int m) ∧ 0 ≤ m ∧ m ≤ 100000 ∧ Φ (.lst true (rangeD 0 m.toNat)))
    (na : starEach [n] X.env = (false, eval n X.env) :: starEach [] X.env := by rfl) (na2 : starEach [.Call (.Name "range" p2) [n] [] q] X.env = (false, eval (.Call (.Name "range" p2) [n] [] q) X.env) :: starEach [] X.env := by rfl) :
    EC F X (.Call (.Name "list" p) [.Call (.Name "range" p2) [n] [] q] [] pos) ρ Φ := fun H0 H σ k Q qq =>
  PE.c (pe_listRg hc hg hm (prg_1 hg2 hm2 (cE.pe X n) na) na2) (h.run k fun va H1 wa e1 k1 r1 ⟨m, ew, h0, h1, p1⟩ => by
    subst ew; cases r1
    refine ⟨m, rfl, RgOk.of_le (by omega) (by omega) (by omega) (by omega), fun pp hp => ?_⟩
    have e : rgV 0 m = (rangeD 0 m.toNat).map (fun d => match d with | .int i => V.int i | _ => V.non) := by
      unfold rgV rangeD
      rw [List.map_map, Int.sub_zero]
      rfl
    have rr : Reps H1 (rgV 0 m) (rangeD 0 m.toNat) := by
      refine Reps.of_get (by rw [e, List.length_map]) fun i v d hv hd => ?_
      rw [e, List.getElem?_map, hd] at hv
      cases hv
      unfold rangeD at hd
      rw [List.getElem?_map] at hd
      cases h : (List.range m.toNat)[i]? with
      | none => rw [h] at hd; cases hd
      | some j => rw [h] at hd; cases hd; exact .int _
    exact qq _ _ _ (e1.trans (Ext.new hp)) (inv_new k1.inv hp) ((repL_new k1.inv hp rr).back e1) p1)
end
end Md
end MdKPart
section MdLPart
set_option Elab.async false
set_option linter.all false
set_option maxRecDepth 100000
set_option maxHeartbeats 4000000
/-! repr, dicts, keyword calls, moves, pop. -/
namespace Md
open PySem L2
/-! ### repr -/
def reprS : Dat → Str
  | .non => "None"
  | .bl b => if b then "True" else "False"
  | .int i => toString i
  | _ => ""
def ReprOk : Dat → Prop
  | .non => True
  | .bl _ => True
  | .int i => i.natAbs.log2 < 1920
  | _ => False
def rRepr : List V → Hp → VK → Prop := fun xs H Q => (xs = [.non] ∧ Q (.str "None") H) ∨ (∃ b : Bool, xs = [.bl b] ∧ Q (.str (if b then "True" else "False")) H) ∨ ∃ i : Int, xs = [.int i] ∧ i.natAbs.log2 < 1920 ∧ Q (.str (toString i)) H
theorem call_reprX {X : Cx} : CallR X (.builtin "repr") rRepr := by
  intro pins s σ H xs us Q I r h
  rcases h with ⟨rfl, q⟩ | ⟨b, rfl, q⟩ | ⟨i, rfl, hz, q⟩
  · obtain ⟨u, rfl, r'⟩ := vals1 r
    obtain rfl : u = Value.none := r'
    refine PySem.P.repr_of_none ?_
    exact ⟨.str _, H, I.tok _, ⟨_, rfl⟩, q⟩
  · obtain ⟨u, rfl, r'⟩ := vals1 r
    obtain rfl : u = Value.bool b := r'
    refine PySem.P.repr_of_bool ?_
    exact ⟨.str _, H, I.tok _, ⟨_, rfl⟩, q⟩
  · obtain ⟨u, rfl, t, rfl⟩ := vals1 r
    exact PySem.P.repr_of_int hz ⟨.str _, H, I.tok _, ⟨_, rfl⟩, q⟩
section
variable {F : Fr} {X : Cx} {ρ : Env1} {H0 H H1 H2 : Hp} {σ : L2.St} {a b c e : Expr} {es : List Expr} {pos p : Pos} {v : V} {w : W}
theorem ec_repr {Φ : W → Prop} (hg : Gl X "repr") (hm : X.mg "repr" = none) (h : EC F X e ρ fun w => ∃ d, w = .d d ∧ ReprOk d ∧ Φ (.d (.str (reprS d)))) (hs : starEach [e] X.env = (false, eval e X.env) :: starEach [] X.env := by rfl) : EC F X (.Call (.Name "repr" p) [e] [] pos) ρ Φ :=
  ec_callB call_reprX hg hm (by decide +kernel) (ea_cons (h.to fun w ⟨d, hw, hd, p1⟩ => ea_nil fun H H1 vs Q i1 r q => by
    obtain ⟨v, rfl, r1⟩ := r.one
    subst hw
    have r1' : Rep H1 v d := r1
    cases r1' with
    | non => exact .inl ⟨rfl, q _ H1 _ (.refl F H1) i1 (repD (.str _)) p1⟩
    | bl b => exact .inr (.inl ⟨b, rfl, q _ H1 _ (.refl F H1) i1 (repD (.str _)) p1⟩)
    | int i => exact .inr (.inr ⟨i, rfl, hd, q _ H1 _ (.refl F H1) i1 (repD (.str _)) p1⟩)
    | str x => exact hd.elim
    | tup h1 h2 => exact hd.elim) hs) (he := hs) (hpl := rfl)
end
/-! ### tables of data by whole numbers -/
def getI (kd : List (Int × Dat)) (k : Int) : Option Dat := (kd.find? fun p => decide (p.1 = k)).map (·.2)
def putI (kd : List (Int × Dat)) (k : Int) (d : Dat) : List (Int × Dat) := if (kd.any fun p => decide (p.1 = k)) = true then kd.map (fun p => if p.1 = k then (p.1, d) else p) else kd ++ [(k, d)]
theorem getI_nil {k : Int} : getI [] k = none := rfl
theorem getI_pos {p : Int × Dat} {r : List (Int × Dat)} {k : Int} (e : p.1 = k) : getI (p :: r) k = some p.2 := by simp [getI, List.find?_cons, e]
theorem getI_neg {p : Int × Dat} {r : List (Int × Dat)} {k : Int} (e : ¬ p.1 = k) : getI (p :: r) k = getI r k := by simp [getI, List.find?_cons, e]
theorem getI_any (k : Int) : ∀ kd : List (Int × Dat), (kd.any fun p => decide (p.1 = k)) = (getI kd k).isSome
  | [] => rfl
  | p :: r => by
    by_cases e : p.1 = k
    · rw [getI_pos e]; simp [e]
    · rw [getI_neg e, ← getI_any k r]; simp [e]
theorem getI_map (k j : Int) (y : Dat) : ∀ kd : List (Int × Dat), getI (kd.map fun p => if p.1 = k then (p.1, y) else p) j = (getI kd j).map fun x => if j = k then y else x
  | [] => rfl
  | p :: r => by
    rw [List.map_cons]
    by_cases e : p.1 = k
    · rw [if_pos e]
      by_cases h : p.1 = j
      · rw [getI_pos (by exact h), getI_pos h, Option.map_some, if_pos (h.symm.trans e)]
      · rw [getI_neg (by exact h), getI_neg h, getI_map k j y r]
    · rw [if_neg e]
      by_cases h : p.1 = j
      · rw [getI_pos h, getI_pos h, Option.map_some, if_neg (fun z => e (h.trans z))]
      · rw [getI_neg h, getI_neg h, getI_map k j y r]
theorem getI_snoc (k j : Int) (y : Dat) : ∀ kd : List (Int × Dat), getI kd k = none → getI (kd ++ [(k, y)]) j = if j = k then some y else getI kd j
  | [], _ => by
    by_cases h : k = j
    · rw [List.nil_append, getI_pos (by exact h), if_pos h.symm]
    · rw [List.nil_append, getI_neg (by exact h), if_neg (fun z => h z.symm)]
  | p :: r, hn => by
    have e : ¬ p.1 = k := fun e => by rw [getI_pos e] at hn; cases hn
    rw [getI_neg e] at hn
    rw [List.cons_append]
    by_cases h : p.1 = j
    · rw [getI_pos h, getI_pos h, if_neg (fun z => e (h.trans z))]
    · rw [getI_neg h, getI_neg h, getI_snoc k j y r hn]
theorem getI_put (kd : List (Int × Dat)) (k j : Int) (y : Dat) : getI (putI kd k y) j = if j = k then some y else getI kd j := by
  unfold putI
  rw [getI_any]
  cases e : getI kd k with
  | none => exact getI_snoc k j y kd e
  | some x =>
    rw [if_pos (by rfl), getI_map]
    by_cases h : j = k
    · subst h; rw [e, if_pos rfl]; simp
    · rw [if_neg h]
      cases getI kd j <;> simp [h]
theorem putI_len (kd : List (Int × Dat)) (k : Int) (d : Dat) : (putI kd k d).length ≤ kd.length + 1 := by
  unfold putI
  split
  · rw [List.length_map]; omega
  · simp
inductive RepO (H : Hp) : Option V → Option Dat → Prop
  | none : RepO H none none
  | some {v : V} {d : Dat} (h : Rep H v d) : RepO H (some v) (some d)
section
variable {H : Hp}
theorem RepK.val {ks : List (Key × V)} {kd : List (Int × Dat)} (r : RepK H ks kd) (k : Int) : RepO H (valV ks (.inl k)) (getI kd k) := by
  induction r with
  | nil => exact .none
  | @cons i v d ks kd h t ih =>
    by_cases e : i = k
    · subst e
      rw [valV_pos rfl, getI_pos rfl]; exact .some h
    · rw [valV_neg (fun z => e (by cases z; rfl)), getI_neg e]; exact ih
theorem RepK.any {ks : List (Key × V)} {kd : List (Int × Dat)} (r : RepK H ks kd) (k : Int) : (ks.any fun kv => decide (kv.1 = (Sum.inl k : Key))) = kd.any fun p => decide (p.1 = k) := by
  induction r with
  | nil => rfl
  | @cons i v d ks kd h t ih =>
    rw [List.any_cons, List.any_cons, ih]
    congr 1
    simp
theorem RepK.mapK {ks : List (Key × V)} {kd : List (Int × Dat)} (r : RepK H ks kd) (k : Int) {v : V} {d : Dat} (h : Rep H v d) : RepK H (ks.map fun kv => if kv.1 = (Sum.inl k : Key) then (kv.1, v) else kv) (kd.map fun p => if p.1 = k then (p.1, d) else p) := by
  induction r with
  | nil => exact .nil
  | @cons i v' d' ks kd h' t ih =>
    rw [List.map_cons, List.map_cons]
    by_cases e : i = k
    · subst e
      rw [if_pos rfl, if_pos rfl]; exact .cons h ih
    · rw [if_neg (fun z => e (by cases z; rfl)), if_neg e]; exact .cons h' ih
theorem RepK.snoc {ks : List (Key × V)} {kd : List (Int × Dat)} (r : RepK H ks kd) (k : Int) {v : V} {d : Dat} (h : Rep H v d) : RepK H (ks ++ [(Sum.inl k, v)]) (kd ++ [(k, d)]) := by
  induction r with
  | nil => exact .cons h .nil
  | cons h' t ih => exact .cons h' ih
theorem RepK.put {ks : List (Key × V)} {kd : List (Int × Dat)} (r : RepK H ks kd) (k : Int) {v : V} {d : Dat} (h : Rep H v d) : RepK H (putK ks (.inl k) v) (putI kd k d) := by
  unfold putK putI
  rw [r.any k]
  split
  · exact r.mapK k h
  · exact r.snoc k h
end
end Md
end MdLPart
section MdMPart
set_option Elab.async false
set_option linter.all false
set_option maxRecDepth 100000
set_option maxHeartbeats 4000000
/-! Dicts over the hidden heap. -/
namespace L2
open PySem PySem.Spec PyProof.Rows
def intV : V → Prop | .int _ => True | _ => False
theorem hits_ints {A : Around} {s : Shared} {ls : List (Key × V)} {vb : List (Key × Value)} (rb : KV ls vb) (fb : ∀ k v, valV ls k = some v → intV v) {ks : List (Key × V)} {va : List (Key × Value)} (ra : KV ks va) :
    (∀ p ∈ ks, intV p.2) → ∃ r, PySem.W.KeqHits A s vb va r ∧ (r = true → ∀ p ∈ ks, valV ls p.1 = some p.2) := by
  unfold KV at ra
  induction ra with
  | nil => intro _; exact ⟨true, .nil, fun _ p hp => by cases hp⟩
  | @cons p q ps qs h t ih =>
    intro hp
    obtain ⟨h1, h2⟩ := h
    obtain ⟨r, hr, hrt⟩ := ih fun p' hm => hp p' (List.mem_cons_of_mem _ hm)
    obtain ⟨k, v⟩ := q
    have h1' : p.1 = k := h1
    have rr := rb.val p.1
    cases e : valV ls p.1 with
    | none =>
      rw [e] at rr
      have e2 : valueAt vb k = none := by
        rw [← h1']
        cases h3 : valueAt vb p.1 with
        | none => rfl
        | some z => rw [h3] at rr; exact rr.elim
      exact ⟨false, .miss e2, fun z => nomatch z⟩
    | some u =>
      rw [e] at rr
      obtain ⟨y, hy, ry⟩ := rr.some_of
      rw [h1'] at hy
      have i1 := hp p List.mem_cons_self
      have i2 := fb p.1 u e
      cases hpv : p.2 with
      | int i =>
        cases u with
        | int j =>
          rw [hpv] at h2
          obtain ⟨t1, e1⟩ := (show ∃ t, v = Value.int i t from h2)
          obtain ⟨t2, e2⟩ := (show ∃ t, y = Value.int j t from ry)
          subst e1
          subst e2
          refine ⟨(i == j) && r, .hit hy (SeqAt.EqAt.int_int i t1 j t2) hr, fun z p' hp' => ?_⟩
          rw [Bool.and_eq_true] at z
          rcases List.mem_cons.mp hp' with rfl | hp'
          · rw [e, hpv, eq_of_beq z.1]
          · exact hrt z.2 p' hp'
        | _ => exact i2.elim
      | _ => rw [hpv] at i1; exact i1.elim
def rEqDB : R2 := fun x y H Q => ∃ a b ks ls, x = .ref a ∧ y = .ref b ∧ H a = some (.dK ks) ∧ H b = some (.dK ls) ∧ (∀ p ∈ ks, intV p.2) ∧ (∀ k v, valV ls k = some v → intV v) ∧ ∀ r : Bool, (r = true → ks.length = ls.length ∧ ∀ p ∈ ks, valV ls p.1 = some p.2) → Q (.bl r) H
theorem op_eq_dictB {X : Cx} (hu : X.A.units < cLine) : OpR X (compareOp .Eq) rEqDB := by
  intro pins s σ H x y v u Q I rx ry h
  obtain ⟨a, b, ks, ls, rfl, rfl, ea, eb, fa, fb, q⟩ := h
  obtain rfl : v = Value.ref a := rx
  obtain rfl : u = Value.ref b := ry
  obtain ⟨_, ya, va, ra, da⟩ := (show ObjOk X.prog X.w H s.heap a (.dK ks) from I.hok a _ ea)
  obtain ⟨_, yb, vb, rb, db⟩ := (show ObjOk X.prog X.w H s.heap b (.dK ls) from I.hok b _ eb)
  obtain ⟨r, hr, hrt⟩ := hits_ints (A := X.A.in1) (s := s) rb fb ra fa
  refine PySem.W.keq_eq (knd := mixKind X.prog X.w) (r := r) ya yb da db hu (fun _ => hr) (fin_bl I (q (va.length == vb.length && r) fun z => ?_) rfl)
  rw [Bool.and_eq_true] at z
  exact ⟨by rw [ra.length, rb.length]; simpa using z.1, hrt z.2⟩
end L2
namespace Md
open PySem L2
section
variable {F : Fr} {X : Cx} {ρ : Env1} {H0 H H1 H2 : Hp} {σ : L2.St} {a b c e : Expr} {es : List Expr} {pos p : Pos} {v : V} {w : W} {D : DE}
/-- d[k] -/
theorem ec_dget {Φ : W → Prop} (hu : X.A.units + 1 < cLine) (h : EC F X a ρ fun wa => ∃ o kd, wa = .dic o kd ∧ EC F X b ρ fun wb => ∃ k d, wb = .d (.int k) ∧ getI kd k = some d ∧ Φ (.d d)) (hs : NoSl b := by exact fun _ _ => rfl) : EC F X (.Subscript a b pos) ρ Φ := fun H0 H σ k Q q =>
  PE.c (pe_dget hu (cE.pe X a) (cE.pe X b) hs) (h.run k fun va H1 wa e1 k1 r1 ⟨o, kd, ew, p1⟩ => p1.run k1 fun vb H2 wb e2 k2 r2 ⟨n, d, ew2, hg, p2⟩ => by
    subst ew; subst ew2; cases r2
    obtain ⟨x, ks, rfl, x2, x3, x4, _⟩ := r1.step e2
    have := x3.val n
    rw [hg] at this
    generalize hv : valV ks (Sum.inl n : Key) = ov at this
    cases this with
    | some r => exact ⟨x, _, rfl, hv ▸ DGet.k (k := Sum.inl n) x2, q _ H2 _ (e1.trans e2) k2.inv (repD r) p2⟩)
theorem ec_dget1 {Φ : W → Prop} {apos cpos : Pos} (hu : X.A.units + 1 < cLine) (h : EC F X a ρ fun wa => ∃ o kd, wa = .dic o kd ∧ EC F X b ρ fun wb => ∃ k, wb = .d (.int k) ∧ Φ (.d ((getI kd k).getD .non)))
    (h1 : attributeBase a "get" X.env (eval a X.env) = eval a X.env := by rfl)
    (h2 : ((backTo cpos (starEach [b] X.env)).all (fun x => !x.1) && (backToKw cpos (keywordEach [] X.env)).all (fun x => x.1.isSome) && decide (([b] : List Expr).length + ([] : List Keyword).length + (if ([] : List Keyword).isEmpty then 0 else 1) < 30)) = true := by rfl)
    (h3 : (apos.endLine == cpos.line) = true := by rfl) (h4 : backTo cpos (starEach [b] X.env) = [(false, eval b X.env)] := by rfl) : EC F X (.Call (.Attribute a "get" apos) [b] [] cpos) ρ Φ := fun H0 H σ k Q q =>
  PE.c (pe_dget1 hu (cE.pe X a) (cE.pe X b) ⟨h1, h2, h3, h4⟩) (h.run k fun va H1 wa e1 k1 r1 ⟨o, kd, ew, p1⟩ => by
    subst ew
    obtain ⟨x, ks, rfl, x2, x3, x4, _⟩ := id r1
    refine ⟨x, rfl, .inl ⟨ks, .inl x2⟩, p1.run k1 fun vb H2 wb e2 k2 r2 ⟨n, ew2, p2⟩ => ?_⟩
    subst ew2; cases r2
    have x2' := e2.keep x _ x4 x2
    have := (x3.mono e2.tup).val n
    generalize hv : valV ks (Sum.inl n : Key) = ov at this
    generalize getI kd n = od at this p2
    cases this with
    | none => exact ⟨none, hv ▸ DGet.k (k := Sum.inl n) x2', q _ H2 _ (e1.trans e2) k2.inv (repD .non) p2⟩
    | @some v _ r => exact ⟨some v, hv ▸ DGet.k (k := Sum.inl n) x2', q _ H2 _ (e1.trans e2) k2.inv (repD r) p2⟩)
theorem ec_dget2 {Φ : W → Prop} {apos cpos : Pos} (hu : X.A.units + 1 < cLine) (h : EC F X a ρ fun wa => ∃ o kd, wa = .dic o kd ∧ EC F X b ρ fun wb => ∃ k, wb = .d (.int k) ∧ EC F X c ρ fun wc => ∃ d, wc = .d d ∧ Φ (.d ((getI kd k).getD d)))
    (h1 : attributeBase a "get" X.env (eval a X.env) = eval a X.env := by rfl)
    (h2 : ((backTo cpos (starEach [b, c] X.env)).all (fun x => !x.1) && (backToKw cpos (keywordEach [] X.env)).all (fun x => x.1.isSome) && decide (([b, c] : List Expr).length + ([] : List Keyword).length + (if ([] : List Keyword).isEmpty then 0 else 1) < 30)) = true := by rfl)
    (h3 : (apos.endLine == cpos.line) = true := by rfl) (h4 : backTo cpos (starEach [b, c] X.env) = [(false, eval b X.env), (false, eval c X.env)] := by rfl) : EC F X (.Call (.Attribute a "get" apos) [b, c] [] cpos) ρ Φ := fun H0 H σ k Q q =>
  PE.c (pe_dget2 hu (cE.pe X a) (cE.pe X b) (cE.pe X c) ⟨h1, h2, h3, h4⟩) (h.run k fun va H1 wa e1 k1 r1 ⟨o, kd, ew, p1⟩ => by
    subst ew
    obtain ⟨x, ks, rfl, x2, x3, x4, _⟩ := id r1
    refine ⟨x, rfl, .inl ⟨ks, .inl x2⟩, p1.run k1 fun vb H2 wb e2 k2 r2 ⟨n, ew2, p2⟩ => p2.run k2 fun vc H3 wc e3 k3 r3 ⟨d, ew3, p3⟩ => ?_⟩
    subst ew2; cases r2; subst ew3
    have r3' : Rep H3 vc d := r3
    have x2' := (e2.trans e3).keep x _ x4 x2
    have := (x3.mono (e2.trans e3).tup).val n
    generalize hv : valV ks (Sum.inl n : Key) = ov at this
    generalize getI kd n = od at this p3
    cases this with
    | none => exact ⟨none, hv ▸ DGet.k (k := Sum.inl n) x2', q _ H3 _ ((e1.trans e2).trans e3) k3.inv (repD r3') p3⟩
    | @some v _ r => exact ⟨some v, hv ▸ DGet.k (k := Sum.inl n) x2', q _ H3 _ ((e1.trans e2).trans e3) k3.inv (repD r) p3⟩)
theorem RepO.isSome {H : Hp} {o : Option V} {d : Option Dat} (r : RepO H o d) : o.isSome = d.isSome := by cases r <;> rfl
/-- k in d -/
theorem et_din {Φ : Bool → Prop} (hu : X.A.units + 1 < cLine) (h : EC F X a ρ fun wa => ∃ k, wa = .d (.int k) ∧ EC F X b ρ fun wb => ∃ o kd, wb = .dic o kd ∧ Φ (getI kd k).isSome) (hm : behindInMarks .In b = false := by rfl) : ET F X (.Compare a [.In] [b] pos) ρ Φ := fun H0 H σ k Q q =>
  PT.c (pt_cmp (pc_din hu (cE.pe X a) (cE.pe X b)) hm) (h.run k fun va H1 wa e1 k1 r1 ⟨n, ew, p1⟩ => p1.run k1 fun vb H2 wb e2 k2 r2 ⟨o, kd, ew2, p2⟩ => by
    subst ew; cases r1; subst ew2
    obtain ⟨x, ks, rfl, x2, x3, x4, _⟩ := r2
    exact ⟨x, _, rfl, DGet.k (k := Sum.inl n) x2, _, rfl, q _ H2 (e1.trans e2) k2.inv (by rw [(x3.val n).isSome]; exact p2)⟩)
theorem et_dnotin {Φ : Bool → Prop} (hu : X.A.units + 1 < cLine) (h : EC F X a ρ fun wa => ∃ k, wa = .d (.int k) ∧ EC F X b ρ fun wb => ∃ o kd, wb = .dic o kd ∧ Φ (!(getI kd k).isSome)) (hm : behindInMarks .NotIn b = false := by rfl) : ET F X (.Compare a [.NotIn] [b] pos) ρ Φ := fun H0 H σ k Q q =>
  PT.c (pt_cmp (pc_dnotin hu (cE.pe X a) (cE.pe X b)) hm) (h.run k fun va H1 wa e1 k1 r1 ⟨n, ew, p1⟩ => p1.run k1 fun vb H2 wb e2 k2 r2 ⟨o, kd, ew2, p2⟩ => by
    subst ew; cases r1; subst ew2
    obtain ⟨x, ks, rfl, x2, x3, x4, _⟩ := r2
    exact ⟨x, _, rfl, DGet.k (k := Sum.inl n) x2, _, rfl, q _ H2 (e1.trans e2) k2.inv (by rw [(x3.val n).isSome]; exact p2)⟩)
/-- x[k] = e, x a dict -/
theorem s_dput {i : Nat} {x : Str} {p1 pos' : Pos} {kd : List (Int × Dat)} {idx value : Expr} (hu : X.A.units + 1 < cLine) (hi : X.N[i]? = some x) (hv : Vis X.env.scope x) (hw : ρ[i]? = some (some (.dic true kd))) (hl : kd.length ≤ 1000)
    (h : EC F X value ρ fun w => ∃ d, w = .d d ∧ EC F X idx ρ fun u => ∃ k : Int, u = .d (.int k) ∧ D.nx (ρ.set i (some (.dic true (putI kd k d)))))
    (hd : (x == ("__debug__" : Str)) = false := by decide) (hcd : (x == ("__classdict__" : Str)) = false := by decide)
    (hs : swapsWith value (some (.Subscript (.Name x p1) idx pos')) pos.line X.env = pure false := by rfl) : S1 F X (.Assign [.Subscript (.Name x p1) idx pos'] value pos) ρ D := fun H0 H σ D' k l => by
  obtain ⟨q, ks, s1, s2, s3, s4, s5⟩ := k.dict hw
  refine PS.c (ps_dput hu (pe_var hi hv hd hcd) (cE.pe X idx) (cE.pe X value) hs) (h.run k fun u H2 w2 e1 k1 r1 ⟨d, ew, h2⟩ => ?_)
  subst ew
  refine ⟨_, s1, h2.run k1 fun u3 H3 w3 e2 k2 r2 ⟨n, ew, dn⟩ => ?_⟩
  subst ew; cases r2
  have s2' := (e1.trans e2).keep q _ s4 s2
  have s3' := s3.mono (e1.trans e2).tup
  obtain ⟨kn, kp⟩ := k2.wdict hw s1 (s3'.put n (Rep.mono e2.tup r1))
  exact ⟨q, _, rfl, DPut.k (k := Sum.inl n) s2' (by rw [s3.length]; exact small1000 hl), l.nx _ _ _ kn ((Keep.ext (e1.trans e2)).trans kp) dn⟩
/-- {k: v} -/
theorem ec_disp1 {Φ : W → Prop} (h : EC F X a ρ fun wa => ∃ k, wa = .d (.int k) ∧ EC F X b ρ fun wb => ∃ d, wb = .d d ∧ Φ (.dic true [(k, d)])) : EC F X (.Dict [some a] [b] pos) ρ Φ := fun H0 H σ kn Q q =>
  PE.c (pe_disp (pps_cons (cE.pe X a) (cE.pe X b) pps_nil) rfl rfl (by simp) (by simp)) (fun pp hp => by
    have e0 : Ext F H (upd H pp (.dK [])) := Ext.new hp
    have nm : ¬ F.M pp := F.fresh kn.inv hp
    refine h.run (kn.step e0 (inv_new kn.inv hp)) fun va H1 wa e1 k1 r1 ⟨n, ew, h2⟩ => h2.run k1 fun vb H2 wb e2 k2 r2 ⟨d, ew2, p2⟩ => ?_
    subst ew; cases r1; subst ew2
    have r2' : Rep H2 vb d := r2
    have hpp : H2 pp = some (.dK []) := (e1.trans e2).keep pp _ nm upd_same
    have tk : TupK H2 (upd H2 pp (.dK (mergeK [] [(Sum.inl n, vb)]))) := tupK_upd fun xs z => by rw [hpp] at z; cases z
    have ex := (e0.trans e1).trans e2
    refine ⟨hpp, [(Sum.inl n, vb)], rfl, by simp, q _ _ (.dic true [(n, d)]) ⟨fun x u m hx => ?_, ex.tup.trans tk⟩ (F.mono _ _ (fun x u m hx => ?_) k2.inv) ⟨pp, _, rfl, upd_same, .cons (r2'.mono tk) .nil, nm, fun _ => hp⟩ p2⟩
    · rw [upd_ne (ne_of_none hx hp)]; exact ex.keep x u m hx
    · rw [upd_ne (fun z => nm (by rw [← z]; exact m))]; exact hx)
/-- dict(d) -/
theorem ec_dcopy {Φ : W → Prop} (hg : Gl X "dict") (hm : X.mg "dict" = none) (h : EC F X e ρ fun w => ∃ o kd, w = .dic o kd ∧ Φ (.dic true kd)) (hs : starEach [e] X.env = (false, eval e X.env) :: starEach [] X.env := by rfl) : EC F X (.Call (.Name "dict" p) [e] [] pos) ρ Φ :=
  ec_callTy call_dictD hg hm (by decide +kernel) (ea_cons (h.to fun w ⟨o, kd, hw, p1⟩ => ea_nil fun H H1 vs Q i1 r q => by
    obtain ⟨v, rfl, r1⟩ := r.one
    subst hw
    obtain ⟨x, ks, rfl, x2, x3, x4, _⟩ := r1
    exact ⟨x, ks, rfl, .inl x2, fun l hl => q _ _ (.dic true kd) (Ext.new hl) (inv_new i1 hl) ⟨l, ks, rfl, upd_same, x3.mono (Ext.new (F := F) hl).tup, F.fresh i1 hl, fun _ => hl⟩ p1⟩) hs) (he := hs) (hpl := rfl)
def IntsD (kd : List (Int × Dat)) : Prop := ∀ p ∈ kd, ∃ i, p.2 = .int i
theorem RepK.mem {ks : List (Key × V)} {kd : List (Int × Dat)} (r : RepK H ks kd) : ∀ p, p ∈ ks → ∃ i d, (i, d) ∈ kd ∧ p.1 = Sum.inl i ∧ Rep H p.2 d := by
  induction r with
  | nil => intro p hp; cases hp
  | @cons i v d ks kd h t ih =>
    intro p hp
    rcases List.mem_cons.mp hp with rfl | hp
    · exact ⟨i, d, List.mem_cons_self, rfl, h⟩
    · obtain ⟨i', d', m, r⟩ := ih p hp
      exact ⟨i', d', List.mem_cons_of_mem _ m, r⟩
theorem RepK.memD {ks : List (Key × V)} {kd : List (Int × Dat)} (r : RepK H ks kd) : ∀ i d, (i, d) ∈ kd → ∃ v, (Sum.inl i, v) ∈ ks ∧ Rep H v d := by
  induction r with
  | nil => intro i d hp; cases hp
  | @cons i v d ks kd h t ih =>
    intro i' d' hp
    rcases List.mem_cons.mp hp with e | hp
    · cases e; exact ⟨v, List.mem_cons_self, h⟩
    · obtain ⟨v', m, r⟩ := ih i' d' hp
      exact ⟨v', List.mem_cons_of_mem _ m, r⟩
theorem getI_mem {kd : List (Int × Dat)} {k : Int} {d : Dat} (h : getI kd k = some d) : (k, d) ∈ kd := by
  unfold getI at h
  cases e : kd.find? (fun p => decide (p.1 = k)) with
  | none => rw [e] at h; cases h
  | some p =>
    rw [e] at h
    cases h
    have h1 := List.find?_some e
    have h2 := List.mem_of_find?_eq_some e
    have h3 : p.1 = k := of_decide_eq_true h1
    rw [← h3]
    exact h2
/-- d == e, dicts of ints -/
theorem et_eqDic {Φ : Bool → Prop} (hu : X.A.units < cLine) (h : EC F X a ρ fun w1 => ∃ o kd, w1 = .dic o kd ∧ EC F X b ρ fun w2 => ∃ o' ld, w2 = .dic o' ld ∧ IntsD kd ∧ IntsD ld ∧ ∀ r : Bool, (r = true → kd.length = ld.length ∧ ∀ i d, (i, d) ∈ kd → getI ld i = some d) → Φ r) :
    ET F X (.Compare a [.Eq] [b] pos) ρ Φ :=
  et_cmp (op_eq_dictB hu) (nomark _) (h.to fun w1 ⟨o, kd, e1, h2⟩ => h2.to fun w2 ⟨o', ld, e2, f1, f2, p1⟩ H H1 va vb Q i1 r1 r2 q => by
    subst e1; subst e2
    obtain ⟨x, vs, rfl, x2, x3, _⟩ := r1
    obtain ⟨y, us, rfl, y2, y3, _⟩ := r2
    have iv : ∀ {ks : List (Key × V)} {kd : List (Int × Dat)}, RepK H1 ks kd → IntsD kd → ∀ p ∈ ks, intV p.2 := fun r f p hp => by
      obtain ⟨i, d, m, _, rd⟩ := r.mem p hp
      obtain ⟨j, ej⟩ := f _ m
      have ej' : d = .int j := ej
      subst ej'
      cases hpv : p.2 <;> rw [hpv] at rd <;> first | exact trivial | cases rd
    refine ⟨x, y, vs, us, rfl, rfl, x2, y2, iv x3 f1, fun k v hv => ?_, fun r hr => q r H1 (.refl F H1) i1 (p1 r fun z => ?_)⟩
    · have : ∃ p ∈ us, p.2 = v := by
        unfold valV at hv
        cases e : us.find? (fun kv => decide (kv.1 = k)) with
        | none => rw [e] at hv; cases hv
        | some p => rw [e] at hv; cases hv; exact ⟨p, List.mem_of_find?_eq_some e, rfl⟩
      obtain ⟨p, hp, rfl⟩ := this
      exact iv y3 f2 p hp
    · obtain ⟨l1, l2⟩ := hr z
      refine ⟨by rw [← x3.length, ← y3.length]; exact l1, fun i d m => ?_⟩
      obtain ⟨v, hm, rv⟩ := x3.memD i d m
      have e1 := l2 _ hm
      have ro := y3.val i
      have e1' : valV us (Sum.inl i : Key) = some v := e1
      rw [e1'] at ro
      obtain ⟨j, ej⟩ := f1 _ m
      have ej' : d = .int j := ej
      subst ej'
      cases rv
      generalize hg : getI ld i = od at ro
      cases ro with
      | @some _ d2 r =>
        obtain ⟨j2, ej2⟩ := f2 _ (getI_mem hg)
        have ej2' : d2 = .int j2 := ej2
        subst ej2'
        cases r
        rfl)
end
end Md
end MdMPart
section MdNPart
set_option Elab.async false
set_option linter.all false
set_option maxRecDepth 100000
set_option maxHeartbeats 4000000
/-! Moves, pop, unpacking of names in cells, freezing, calls by keywords. -/
namespace Md
open PySem L2
section
variable {F : Fr} {X : Cx} {ρ ρ' : Env1} {H0 H H1 H2 : Hp} {σ σ' : L2.St} {a b c e : Expr} {es : List Expr} {pos p : Pos} {v : V} {w : W} {D : DE} {D' : Ends} {st : Stmt} {ss : List Stmt}
/-! ### frozen readings -/
theorem ET.frz {Φ : Bool → Prop} (i : Nat) (h : ET F X e (Md.frz ρ i) Φ) : ET F X e ρ Φ := fun H0 H σ k Q q => h H0 H σ (k.frz i) Q q
theorem free_frz (i : Nat) {q : Addr} (f : Free σ ρ q) : Free σ (Md.frz ρ i) q := fun j w hj ho hs => by
  unfold Md.frz at hj
  split at hj
  · rename_i u hi
    by_cases hji : j = i
    · subst hji
      have hl : j < ρ.length := (List.getElem?_eq_some_iff.mp hi).1
      rw [List.getElem?_set_self hl] at hj
      cases hj
      cases u <;> cases ho
    · rw [List.getElem?_set_ne (Ne.symm hji)] at hj
      exact f j w hj ho hs
  · exact f j w hj ho hs
theorem Lift.frz (i : Nat) (l : Lift F H0 H σ ρ D D') : Lift F H0 H σ (Md.frz ρ i) D D' :=
  ⟨fun a b c kn kp d => l.nx a b c kn ⟨kp.tup, fun x o m h f => kp.free x o m h (free_frz i f)⟩ d, fun a b c kn kp d => l.bk a b c kn ⟨kp.tup, fun x o m h f => kp.free x o m h (free_frz i f)⟩ d, fun a b c kn kp d => l.ct a b c kn ⟨kp.tup, fun x o m h f => kp.free x o m h (free_frz i f)⟩ d, l.rt⟩
theorem S1.frz (i : Nat) (h : S1 F X st (Md.frz ρ i) D) : S1 F X st ρ D := fun H0 H σ D' k l => h H0 H σ D' (k.frz i) (l.frz i)
theorem SS.frz (i : Nat) (h : SS F X ss (Md.frz ρ i) D) : SS F X ss ρ D := fun H0 H σ D' k l => h H0 H σ D' (k.frz i) (l.frz i)
/-! ### y = x, x's list with it -/
theorem Kn.move {i j : Nat} (k : Kn F H0 H σ ρ) (hw : ρ[j]? = some (some w)) (hs : σ[j]? = some (some v)) (hij : i ≠ j) : Kn F H0 H (σ.set i (some v)) ((ρ.set j none).set i (some w)) := by
  have hl : j < ρ.length := (List.getElem?_eq_some_iff.mp hw).1
  have pick : ∀ (n : Nat) (u : W), ((ρ.set j none).set i (some w))[n]? = some (some u) → (n = i ∧ i < ρ.length ∧ u = w) ∨ (n ≠ i ∧ n ≠ j ∧ ρ[n]? = some (some u)) := fun n u h => by
    by_cases hn : n = i
    · subst hn
      by_cases hl2 : n < ρ.length
      · rw [List.getElem?_set_self (by simpa using hl2)] at h; cases h; exact .inl ⟨rfl, hl2, rfl⟩
      · rw [List.getElem?_eq_none (by simpa using hl2)] at h; cases h
    · rw [List.getElem?_set_ne (Ne.symm hn)] at h
      by_cases hnj : n = j
      · subst hnj
        rw [List.getElem?_set_self hl] at h; cases h
      · rw [List.getElem?_set_ne (Ne.symm hnj)] at h
        exact .inr ⟨hn, hnj, h⟩
  refine ⟨k.ext, k.inv, by simp [k.len], fun n u h => ?_, fun x y u u' z ne hx hy h1 h2 h3 h4 => ?_⟩
  · rcases pick n u h with ⟨rfl, hl2, rfl⟩ | ⟨n1, n2, h'⟩
    · obtain ⟨v', h1, h2⟩ := k.get j u hw
      rw [hs] at h1; cases h1
      exact ⟨v, by rw [List.getElem?_set_self (by rw [k.len]; exact hl2)], h2⟩
    · obtain ⟨v', h1, h2⟩ := k.get n u h'
      exact ⟨v', by rw [List.getElem?_set_ne (Ne.symm n1)]; exact h1, h2⟩
  · rcases pick x u hx with ⟨rfl, hl2, rfl⟩ | ⟨n1, n2, h'⟩
    · rcases pick y u' hy with ⟨rfl, _, _⟩ | ⟨m1, m2, h''⟩
      · exact ne rfl
      · rw [List.getElem?_set_self (by rw [k.len]; exact hl2)] at h3
        rw [List.getElem?_set_ne (Ne.symm m1)] at h4
        cases h3
        exact k.sep j y u u' z (Ne.symm m2) hw h'' h1 h2 hs h4
    · rcases pick y u' hy with ⟨rfl, hl2, rfl⟩ | ⟨m1, m2, h''⟩
      · rw [List.getElem?_set_self (by rw [k.len]; exact hl2)] at h4
        rw [List.getElem?_set_ne (Ne.symm n1)] at h3
        cases h4
        exact k.sep x j u u' z n2 h' hw h1 h2 h3 hs
      · rw [List.getElem?_set_ne (Ne.symm n1)] at h3
        rw [List.getElem?_set_ne (Ne.symm m1)] at h4
        exact k.sep x y u u' z ne h' h'' h1 h2 h3 h4
theorem keep_move {i j : Nat} (k : Kn F H0 H σ ρ) (hw : ρ[j]? = some (some w)) (hs : σ[j]? = some (some v)) (hij : i ≠ j) : Keep F H σ ρ H (σ.set i (some v)) ((ρ.set j none).set i (some w)) := by
  refine ⟨.refl H, fun q o m h f => ⟨h, fun n u hn ho hz => ?_⟩⟩
  have hl : j < ρ.length := (List.getElem?_eq_some_iff.mp hw).1
  by_cases e : n = i
  · subst e
    by_cases hl2 : n < ρ.length
    · rw [List.getElem?_set_self (by simpa using hl2)] at hn
      rw [List.getElem?_set_self (by rw [k.len]; exact hl2)] at hz
      cases hn; cases hz
      exact f j _ hw ho hs
    · rw [List.getElem?_eq_none (by simpa using hl2)] at hn; cases hn
  · rw [List.getElem?_set_ne (Ne.symm e)] at hn hz
    by_cases e2 : n = j
    · subst e2
      rw [List.getElem?_set_self hl] at hn; cases hn
    · rw [List.getElem?_set_ne (Ne.symm e2)] at hn
      exact f n u hn ho hz
/-- y = x -/
theorem s_move {i j : Nat} {x y : Str} {p' p'' : Pos} (hN : X.N.Nodup) (hi : X.N[i]? = some y) (hy : Loc X.env.scope y) (hj : X.N[j]? = some x) (hv : Vis X.env.scope x) (hij : i ≠ j) (hw : ρ[j]? = some (some w)) (h : D.nx ((ρ.set j none).set i (some w)))
    (hs : swapsWith (.Name x p'') (some (.Name y p')) pos.line X.env = pure false := by rfl) (hd : (x == ("__debug__" : Str)) = false := by decide) (hcd : (x == ("__classdict__" : Str)) = false := by decide)
    (hf : X.fn y = true ∨ X.env.scope.names.lookup y = some .local := by first | exact .inl rfl | exact .inr rfl) : S1 F X (.Assign [.Name y p'] (.Name x p'') pos) ρ D := fun H0 H σ D' k l => by
  obtain ⟨v, h1, h2⟩ := k.get j w hw
  exact PS.c (ps_set hN hi hy (pe_var hj hv hd hcd) hs hf) ⟨v, h1, l.nx _ _ _ (k.move hw h1 hij) (keep_move k hw h1 hij) h⟩
/-! ### y = x.pop(e) -/
theorem s_popAt {i j : Nat} {x y : Str} {p1 apos cpos p' : Pos} {ds : List Dat} (hN : X.N.Nodup) (hi : X.N[i]? = some x) (hv : Vis X.env.scope x) (hw : ρ[i]? = some (some (.lst true ds))) (hj : X.N[j]? = some y) (hy : Loc X.env.scope y)
    (h : EC F X e ρ fun w => ∃ (n : Nat) (d : Dat), w = .d (.int (n : Int)) ∧ ds[n]? = some d ∧ D.nx ((ρ.set i (some (.lst true (ds.eraseIdx n)))).set j (some (.d d)))) (hl : ds.length ≤ 100000)
    (hd : (x == ("__debug__" : Str)) = false := by decide) (hcd : (x == ("__classdict__" : Str)) = false := by decide)
    (hbase : attributeBase (.Name x p1) "pop" X.env (eval (.Name x p1) X.env) = eval (.Name x p1) X.env := by rfl)
    (hfew : ((backTo cpos (starEach [e] X.env)).all (fun x => !x.1) && (backToKw cpos (keywordEach [] X.env)).all (fun x => x.1.isSome) && decide ([e].length + ([] : List Keyword).length + (if ([] : List Keyword).isEmpty then 0 else 1) < 30)) = true := by rfl)
    (hline : (apos.endLine == cpos.line) = true := by rfl) (hst : starEach [e] X.env = (false, eval e X.env) :: starEach [] X.env := by rfl)
    (hs : swapsWith (.Call (.Attribute (.Name x p1) "pop" apos) [e] [] cpos) (some (.Name y p')) pos.line X.env = pure false := by rfl)
    (hf : X.fn y = true ∨ X.env.scope.names.lookup y = some .local := by first | exact .inl rfl | exact .inr rfl) : S1 F X (.Assign [.Name y p'] (.Call (.Attribute (.Name x p1) "pop" apos) [e] [] cpos) pos) ρ D := fun H0 H σ D' k l => by
  obtain ⟨q, vs, s1, s2, s3, s4, s5⟩ := k.list hw
  refine PS.c (ps_set hN hj hy (pe_bm PySem.F.plainAttrs_list PySem.F.slot_list_pop PySem.F.type_list_pop mt_popAt (pe_var hi hv hd hcd) (pa_cons (cE.pe X e) pa_nil hst) hbase hfew hline hst rfl) hs hf) ?_
  refine ⟨_, s1, .inl ⟨rfl, vs, SqL.of s2⟩, h.run k fun u H2 w2 e1 k1 r1 ⟨n, d, ew, hn, dn⟩ => ?_⟩
  subst ew; cases r1
  have s2' := e1.keep q _ s4 s2
  have s3' := s3.mono e1.tup
  obtain ⟨z, hz, rz⟩ := s3'.get hn
  have hnl : n < ds.length := (List.getElem?_eq_some_iff.mp hn).1
  obtain ⟨kn, kp⟩ := k1.wlist hw s1 (s3'.eraseIdx n)
  have tk : TupK H2 (upd H2 q (.lst (vs.eraseIdx n))) := tupK_upd fun xs t => by rw [s2'] at t; cases t
  refine ⟨q, vs, n, n, z, rfl, rfl, s2', by omega, by omega, seqIndex_of (by omega) (by rw [s3.length]; omega), by simpa using hz, ?_⟩
  exact l.nx _ _ _ (kn.set (.refl F _) kn.inv (w := .d d) (rz.mono tk) rfl j) (((Keep.ext e1).trans kp).trans (keep_set kn (.refl F _) (w := .d d) (rz.mono tk) rfl j)) dn
/-! ### a, b = e1, e2: names of any kind -/
theorem s_par2c {i j : Nat} {x y : Str} {px py pt : Pos} {kt k2 pt2} (hc : X.calm = true) (hN : X.N.Nodup) (hi : X.N[i]? = some x) (hj : X.N[j]? = some y) (hx : Loc X.env.scope x) (hy : Loc X.env.scope y)
    (h : EC F X a ρ fun w1 => w1.res = true ∧ EC F X b ρ fun w2 => w2.res = true ∧ D.nx ((ρ.set i (some w1)).set j (some w2)))
    (hs : swapsWithSole [.Tuple [.Name x px, .Name y py] kt pt] (.Tuple [a, b] k2 pt2) pos.line X.env = pure false := by rfl) (hw : swappedStores [.Tuple [.Name x px, .Name y py] kt pt] (.Tuple [a, b] k2 pt2) X.env = pure none := by rfl)
    (h1 : (assignEach [.Tuple [.Name x px, .Name y py] kt pt] X.env).map (·.2) = [assign (.Tuple [.Name x px, .Name y py] kt pt) X.env] := by rfl)
    (hs1 : starEach [a, b] X.env = (false, eval a X.env) :: starEach [b] X.env := by rfl) (hs2 : starEach [b] X.env = (false, eval b X.env) :: starEach [] X.env := by rfl)
    (hn : (assignEach [.Name x px, .Name y py] X.env).length = 2 := by rfl) (hst : (assignEach [.Name x px, .Name y py] X.env).findIdx? (·.1) = none := by rfl)
    (hsx : (assignEach [.Name x px, .Name y py] X.env).map (·.2) = assign (.Name x px) X.env :: (assignEach [.Name y py] X.env).map (·.2) := by rfl)
    (hsy : (assignEach [.Name y py] X.env).map (·.2) = assign (.Name y py) X.env :: (assignEach [] X.env).map (·.2) := by rfl)
    (hfx : X.fn x = true ∨ X.env.scope.names.lookup x = some .local := by first | exact .inl rfl | exact .inr rfl) (hfy : X.fn y = true ∨ X.env.scope.names.lookup y = some .local := by first | exact .inl rfl | exact .inr rfl) :
    S1 F X (.Assign [.Tuple [.Name x px, .Name y py] kt pt] (.Tuple [a, b] k2 pt2) pos) ρ D := fun H0 H σ D' k l =>
  PS.c (ps_asg (pe_tup (pa_cons (cE.pe X a) (pa_cons (cE.pe X b) pa_nil hs2) hs1)) (pg_tup hc (pgs_cons (pg_name hN hi hx hfx) (pgs_cons (pg_name hN hj hy hfy) pgs_nil hsy) hsx) hn hst) hs hw h1)
    (h.run k fun v1 H1 w1 e1 k1 r1 ⟨q1, h2⟩ => h2.run k1 fun v2 H2 w2 e2 k2 r2 ⟨q2, dn⟩ => by
      refine ⟨by show 2 ≤ sizeLine; decide, fun pp hp => ?_⟩
      have e3 : Ext F H2 (upd H2 pp (.tup [v1, v2])) := Ext.new hp
      have i3 := inv_new (o := .tup [v1, v2]) k2.inv hp
      refine ⟨pp, [v1, v2], rfl, SqT.of upd_same, rfl, v1, [v2], rfl, v2, [], rfl, rfl, ?_⟩
      have ka := k.set e1 k1.inv r1 q1 i
      have kb := ka.set (e2.trans e3) i3 (r2.step e3) q2 j
      exact l.nx _ _ _ kb ((keep_set k e1 r1 q1 i).trans (keep_set ka (e2.trans e3) (r2.step e3) q2 j)) dn)
end
/-! ### calls by keywords only, in the parameters' order turned round -/
def HasFnK (P : Program) (w : World) (K : PySem.W.Frag) (mg : Str → Option Value) (base : Heap) (x : Str) (k : Nat) (ks : List Str) (sp : Sp) : Prop :=
  ∃ f fd ps, FnOk P w K mg base CX0 k f fd ps sp ∧ mg x = some (.ref f) ∧ PySem.W.keepIn K (.ref f) = true ∧ KBn K fd ps 0 ks (fun _ ws => ws.reverse) (fun _ zs => zs.reverse)
def cK (X : Cx) (kws : List Keyword) : TA := fun σ H Q => ∀ pos pins s, Inv X pins σ H s → wpAny (model X.prog X.w) X.A (evalAll ((backToKw pos (keywordEach kws X.env)).map (·.2))) (AP X pins σ Q) X.xe s
theorem cK.pk (X : Cx) (kws : List Keyword) : PK X kws (cK X kws) := ⟨fun pos pins s σ H Q I h => h pos pins s I⟩
theorem PK.c {X : Cx} {kws : List Keyword} {t : TA} (h : PK X kws t) {σ : L2.St} {H : Hp} {Q : List V → Hp → Prop} (q : t σ H Q) : cK X kws σ H Q := fun pos pins s I => h.run pos pins s σ H Q I q
def EK (F : Fr) (X : Cx) (kws : List Keyword) (ρ : Env1) (Φ : List W → Prop) : Prop := ∀ H0 H σ, Kn F H0 H σ ρ → ∀ Q : List V → Hp → Prop, (∀ vs H2 ws, Ext F H H2 → F.I H2 → RepWs F H H2 vs ws → Φ ws → Q vs H2) → cK X kws σ H Q
section
variable {F : Fr} {X : Cx} {ρ ρ' : Env1} {e : Expr} {kws : List Keyword} {pos p kpos : Pos} {w : W} {nm : Option Str}
theorem ek_nil {Φ : List W → Prop} (h : Φ []) : EK F X [] ρ Φ := fun H0 H σ k Q q => PK.c pk_nil (q [] H [] (.refl F H) k.inv .nil h)
theorem ek_cons {Φ : List W → Prop} (h : EC F X e ρ fun w => EK F X kws ρ fun ws => Φ (w :: ws)) : EK F X (⟨nm, e, kpos⟩ :: kws) ρ Φ := fun H0 H σ k Q q =>
  PK.c (pk_cons (cE.pe X e) (cK.pk X kws)) (h.run k fun v H1 w e1 k1 r1 p1 => p1 H0 H1 σ k1 _ fun vs H2 ws e2 i2 r2 p2 => q _ H2 _ (e1.trans e2) i2 (.cons (r1.step e2) (r2.back e1)) p2)
theorem RepWs.app {F : Fr} {H0 H : Hp} {vs us : List V} {ws xs : List W} (r : RepWs F H0 H vs ws) (r2 : RepWs F H0 H us xs) : RepWs F H0 H (vs ++ us) (ws ++ xs) := by
  induction r with
  | nil => exact r2
  | cons h t ih => exact .cons h ih
theorem RepWs.rev {F : Fr} {H0 H : Hp} {vs : List V} {ws : List W} (r : RepWs F H0 H vs ws) : RepWs F H0 H vs.reverse ws.reverse := by
  induction r with
  | nil => exact .nil
  | cons h t ih => rw [List.reverse_cons, List.reverse_cons]; exact ih.app (.cons h .nil)
theorem ec_callK {x : Str} {k : Nat} {S : Spec} {Φ : W → Prop} {ks : List Str} (hf : HasFnK X.prog X.w X.K X.mg X.base x k ks (spD CP S)) (hr : Room k X.A) (hg : Gl X x) (h : EK F X kws ρ fun ws => ws.length = ks.length ∧ noDeck ws = true ∧ S (ws.map W.rd).reverse fun w => w.res = true ∧ w ≠ .deck ∧ Φ w)
    (hall : (backToKw pos (keywordEach kws X.env)).all (·.1.isSome) = true := by rfl) (hks : (backToKw pos (keywordEach kws X.env)).filterMap (·.1) = ks := by rfl)
    (hdb : (x == ("__debug__" : Str)) = false := by decide) (hpl : ((backTo pos (starEach [] X.env)).any (·.1) || (backToKw pos (keywordEach kws X.env)).any (·.1.isNone)) = false := by rfl) : EC F X (.Call (.Name x p) [] kws pos) ρ Φ := fun H0 H σ kn Q q => by
  obtain ⟨f, fd, ps, G, hm, hk, hb⟩ := hf
  have pe : PE X (.Call (.Name x p) [] kws pos) (fun σ H Q => cK X kws σ H fun zs H1 => zs.length = ks.length ∧ spD CP S zs.reverse H1 Q E0) := by
    refine ⟨fun pins s σ H Q I h => ?_⟩
    refine wpAny_Call_Name_kw (ld_glob I hg hm ?_ hdb)
    refine PySem.W.callWith_KW0 (h₀ := X.base) I.ok.mod.kin hk hall (thn ((cK.pk X kws).run pos pins s σ H _ I h) fun ws s2 ⟨zs, H2, I2, rz, l2, q2⟩ => ⟨I2.kIn, ?_⟩) hpl
    rw [hks]
    exact run_fnN (us := []) (vs := []) G hr hb pass0 I2 .nil rz rfl l2 q2
  refine PE.c pe (h H0 H σ kn _ fun vs H2 ws e1 i1 r1 ⟨hl, nd, hS⟩ => ⟨by rw [r1.length]; exact hl, F0, _, _, rfl, trivial, ?_, hS, fun v H3 w e2 _ r2 ⟨h1, h2, h3⟩ => q v H3 w (e1.trans e2.f0) (e2.inv i1) ((r2.f0 i1 h1 h2).back e1) h3⟩)
  exact ((r1.rd (H1 := H2)).to0 (noDeck_rd nd)).rev
end
end Md
end MdNPart
section P3Part
set_option Elab.async false
set_option linter.all false
set_option maxRecDepth 100000
set_option maxHeartbeats 2000000
/-! distances.py: rows of end numbers, needs, distance_after -/
namespace Md
open PySem L2
def sp_end_rows : Spec := fun ws Φ => ∃ (b : List Web) (m : Nat), ws = [.d (dBook b), .d (dN m)] ∧ BookOk b ∧ m ≤ 1000 ∧ Φ (.lst true ((List.range (m + 1)).map fun i => dRow (ends b i)))
def sp_need_places : Spec := fun ws Φ => ∃ (s : Web) (b : List Web) (p q : Nat), ws = [.d (dGarden s b), .d (.tup [dN p, dN q])] ∧ GardenOk s b ∧ p < s.n ∧ q < s.n ∧ Φ (.d .non)
def sp_need_unlike : Spec := fun ws Φ => ∃ (s : Web) (b : List Web) (p q : Nat), ws = [.d (dGarden s b), .d (dN p), .d (dN q)] ∧ GardenOk s b ∧ p < s.n ∧ q < s.n ∧ p ≠ q ∧ Φ (.d .non)
def sp_need_question : Spec := fun ws Φ => ∃ (s : Web) (b : List Web) (p q m : Nat) (d : Int), ws = [.d (dGarden s b), .d (dN p), .d (dN q), .d (dN m), .d (.int d)] ∧ GardenOk s b ∧ p < s.n ∧ q < s.n ∧ p ≠ q ∧ 0 ≤ d ∧ Φ (.d .non)
def sp_distance_after : Spec := fun ws Φ => ∃ (s : Web) (b : List Web) (p q m : Nat), ws = [.d (dGarden s b), .d (dN p), .d (dN q), .d (dN m)] ∧ GardenOk s b ∧ p < s.n ∧ q < s.n ∧ m ≤ 1000 ∧ Φ (.d (dOpt (far s b m p q)))
theorem ev_negc {F : Fr} {X : Cx} {ρ : Env1} {i : Int} {kk : Nat} {pos pp : Pos} : Ev F X (.UnaryOp .USub (.Constant (.int i) kk pp) pos) ρ (.d (.int (-i))) := ec_neg (ev_int.then ⟨i, rfl, rfl⟩)
theorem atI_lastR {α : Type} {f : Nat → α} {n : Nat} : atI ((List.range (n + 1)).map f) (-1) = some (f n) := by
  unfold atI ixN
  rw [List.length_map, List.length_range, if_neg (by omega), if_pos (by omega)]
  have : (-1 + ((n + 1 : Nat) : Int)).toNat = n := by omega
  rw [this]
  simp
theorem atI_rangeR {α : Type} {f : Nat → α} {n i : Nat} (h : i < n) : atI ((List.range n).map f) (i : Int) = some (f i) := L2.atI_nat (by rw [List.getElem?_map, List.getElem?_range h]; rfl)
section
variable {F : Fr} {X : Cx} {ρ : Env1} {aw aw2 num pl i0 : Expr} {p1 p2 p3 p4 pi : Pos} {x y : Str}
theorem ev_sums {W : Web} {r : Row} {p : Nat} (h1 : HasFn X.prog X.w X.K X.mg X.base x 2 (spD CP sp_sums_from)) (h2 : HasFn X.prog X.w X.K X.mg X.base y 1 (spD CP sp_tied_lengths)) (hr : Room 2 X.A) (hg : Gl X x) (hg2 : Gl X y)
    (ok : W.Ok r.length) (hp : RowPos r) (hpn : p < W.n) (e1 : Ev F X aw ρ (.d (dWeb W))) (e0 : Ev F X i0 ρ (.d (.int 0))) (e2 : Ev F X aw2 ρ (.d (dWeb W))) (e3 : Ev F X num ρ (.d (dRow r))) (e4 : Ev F X pl ρ (.d (dN p)))
    (hix : PlainIx i0 := by exact fun _ _ => rfl) (hdb : (x == ("__debug__" : Str)) = false := by decide) (hdb2 : (y == ("__debug__" : Str)) = false := by decide)
    (hs1 : starEach [.Subscript aw i0 pi, .Call (.Name y p2) [aw2, num] [] p3, pl] X.env = (false, eval (.Subscript aw i0 pi) X.env) :: starEach [.Call (.Name y p2) [aw2, num] [] p3, pl] X.env := by rfl)
    (hs2 : starEach [.Call (.Name y p2) [aw2, num] [] p3, pl] X.env = (false, eval (.Call (.Name y p2) [aw2, num] [] p3) X.env) :: starEach [pl] X.env := by rfl) (hs3 : starEach [pl] X.env = (false, eval pl X.env) :: starEach [] X.env := by rfl)
    (ht1 : starEach [aw2, num] X.env = (false, eval aw2 X.env) :: starEach [num] X.env := by rfl) (ht2 : starEach [num] X.env = (false, eval num X.env) :: starEach [] X.env := by rfl)
    (hpl1 : (backTo p4 (starEach [.Call (.Name y p2) [aw2, num] [] p3, pl] X.env)).any (·.1) = false := by rfl) (hpl2 : (backTo p3 (starEach [num] X.env)).any (·.1) = false := by rfl) :
    Ev F X (.Call (.Name x p1) [.Subscript aw i0 pi, .Call (.Name y p2) [aw2, num] [] p3, pl] [] p4) ρ (.lst true ((rowOf W.n (dist (tied W r) p)).map dOpt)) :=
  ev_call0 h1 hr hg (eva_cons (ev_ix e1 e0 rfl rfl hix) (eva_cons (ev_call0 (w := .lst true ((tied W r).map dEdge)) h2 (hr.mono (by decide)) hg2 (eva_cons e2 (eva_cons e3 eva_nil ht2) ht1) ⟨W, r, rfl, ok, rfl, (fun z => nomatch z), rfl⟩ rfl hdb2 ht1 hpl2) (eva_cons e4 eva_nil hs3) hs2) hs1)
    ⟨tied W r, W.n, p, rfl, tied_pos hp, tied_inn ok, hpn, Nat.le_trans ok.small (by decide), rfl, (fun z => nomatch z), rfl⟩ rfl hdb hs1 hpl1
end
section
variable {P : Program} {w : World} {K : PySem.W.Frag} {mg : Str → Option Value} {base : Heap} {f : Addr} {fd : FuncData}
theorem ok_sums_from (F : Fun K "sums_from" "sums_from" s_sums_from f fd) (B : Bt mg) (h_spread_sums : HasFn P w K mg base "spread_sums" 1 (spD CP sp_spread_sums)) : FnOk P w K mg base CX0 2 f fd ["places", "ties", "place"] (spD CP sp_sums_from) := by
  refine fnD F sc_sums_from (by decide) (fun ws Φ ⟨i, l, n, h, _⟩ => by rw [h]; rfl) fun cdv A outer s H E G ws Φ hC hr hS => ?_
  obtain ⟨es, n, p, rfl, hpos, hinn, hp, hn, hΦ⟩ := hS
  refine ss_one (s_ret (ec_call0 h_spread_sums hr rfl (ea_cons (Ev.then (vl (i := 1) rfl rfl) (ea_cons ?_)))))
  refine ec_lc (own := [("here", 3)]) (List.range n) (fun i : Nat => Dat.int (0 + (i : Int))) (fun i r => r = some (dOpt (if i = p then some 0 else none))) pat_name rfl (sc_sums_from).nd (blkOk_by (N := N_sums_from) (sc := defScope s_sums_from) (by decide +kernel)) (by simp) (by simp; omega) (fun s H C cl fp => pg_name (i := 3) (sc_sums_from).nd rfl (.inl rfl))
    (ei_range1 rfl B.range (Ev.then (vd (i := 0) rfl rfl) ⟨_, rfl, by omega, by omega, by simp [rangeD]⟩)) (fun i hi => ⟨_, rfl, fun s H C cl fp => ets_nil ⟨fun _ s H C cl fp => ?_, fun e => nomatch e⟩⟩) fun out ho => ?_
  · refine ec_if (EvT.then (et_eqI (vd (i := 3) rfl rfl) (vd (i := 2) rfl rfl)) ⟨fun h => Ev.then ev_int ⟨_, rfl, ?_⟩, fun h => Ev.then ev_non ⟨_, rfl, ?_⟩⟩)
    · have : i = p := by have := of_decide_eq_true h; omega
      rw [if_pos this]; rfl
    · have : ¬ i = p := by have := of_decide_eq_false h; omega
      rw [if_neg this]; rfl
  · refine ea_nil ⟨rfl, es, n, p, ?_, hpos, hinn, hp, rfl, (fun z => nomatch z), hΦ⟩
    rw [outs_map (f := fun i => dOpt (if i = p then some 0 else none)) ho]
    show [Md.W.lst false _, Md.W.lst false _] = _
    unfold row0
    rw [List.map_map]
    rfl
theorem row0_rep (b : List Web) : List.replicate b.length (Dat.int 1) = (ends b 0).map dOpt := by
  unfold ends
  rw [List.map_map]
  induction b with
  | nil => rfl
  | cons a t ih => rw [List.length_cons, List.replicate_succ, ih]; rfl
theorem ok_end_rows (F : Fun K "end_rows" "end_rows" s_end_rows f fd) (B : Bt mg) (h_sums_from : HasFn P w K mg base "sums_from" 2 (spD CP sp_sums_from)) (h_tied_lengths : HasFn P w K mg base "tied_lengths" 1 (spD CP sp_tied_lengths)) : FnOk P w K mg base CX0 3 f fd ["book", "n"] (spD CP sp_end_rows) := by
  refine fnD F sc_end_rows (by decide) (fun ws Φ ⟨i, l, h, _⟩ => by rw [h]; rfl) fun cdv A outer s H E G ws Φ hC hr hS => ?_
  obtain ⟨b, m, rfl, ok, hm, hΦ⟩ := hS
  have h3 := ok.three
  have h1 := ok.one
  refine ss_cons (s_set (i := 2) (sc_end_rows).nd rfl (.inr rfl) ?_)
  refine ec_lst (ea_cons (ec_repT (Ev.then (ev_tup (eva_cons ev_int eva_nil) (.cons .nil)) ⟨_, rfl, Ev.then (ev_len rfl B.len (vd (i := 0) rfl rfl) rfl) ⟨_, rfl, by rw [List.length_map]; omega, by rw [List.length_map]; omega, ea_nil ⟨_, .cons .nil, by simp, rfl, ?_⟩⟩⟩)))
  rw [List.length_map, Int.toNat_natCast, row0_rep]
  refine ss_cons (s_for pat_name rfl (pg_name (i := 3) (sc_end_rows).nd rfl (.inl rfl)) PassesOwn.never (ei_range1 rfl B.range (Ev.then (vd (i := 1) rfl rfl) ⟨_, rfl, by omega, by omega,
    fun i ρ' => ∃ c d, ρ' = [some (.d (dBook b)), some (.d (dN m)), some (.lst true ((List.range (i + 1)).map fun j => dRow (ends b j))), c, d], ⟨_, _, rfl⟩, ?_, ?_⟩)))
  · rintro i d ρ' hd ⟨c, c', rfl⟩
    refine ⟨_, rfl, ss_one (s_app (i := 2) rfl (.inr (.inl rfl)) rfl (by have := (List.getElem?_eq_some_iff.mp hd).1; simp [rangeD] at this ⊢; omega) (ec_tuple rfl B.tuple ?_))⟩
    refine ec_lc (own := [("web", 4)]) b dWeb (fun W r => r = some (dOpt (dist (tied W (ends b i)) 0 1))) pat_name rfl (sc_end_rows).nd (blkOk_by (N := N_end_rows) (sc := defScope s_end_rows) (by decide +kernel)) (by simp) (by omega) (fun s H C cl fp => pg_name (i := 4) (sc_end_rows).nd rfl (.inl rfl))
      (ei_tup (Ev.then (vd (i := 0) rfl rfl) ⟨_, rfl, rfl⟩)) (fun W hW => ⟨_, rfl, fun s H C cl fp => ets_nil ⟨fun _ s H C cl fp => ?_, fun e => nomatch e⟩⟩) fun out ho => ?_
    · obtain ⟨gok, g2⟩ := ok.each W hW
      refine Ev.then (ev_ix (w := .lst true ((rowOf W.n (dist (tied W (ends b i)) 0)).map dOpt)) (d := dOpt (dist (tied W (ends b i)) 0 1)) ?e1 ev_int rfl ?e2) ⟨_, rfl, rfl⟩
      case e1 => exact ev_sums (W := W) (r := ends b i) (p := 0) h_sums_from h_tied_lengths (hr.mono (by decide)) rfl rfl (by rw [ends_length]; exact gok) (ends_pos b i) (by omega) (vd (i := 4) rfl rfl) ev_int (vd (i := 4) rfl rfl) (ev_ix (vl (i := 2) rfl rfl) ev_negc rfl atI_lastR) ev_int
      case e2 =>
        have := atI_row (r := rowOf W.n (dist (tied W (ends b i)) 0)) (c := 1) (by rw [rowOf_len]; omega)
        rw [rowOf_at (by omega)] at this
        exact this
    · refine ⟨_, rfl, _, rfl, some (Md.W.d d), c', ?_⟩
      rw [outs_map (f := fun W => dOpt (dist (tied W (ends b i)) 0 1)) ho]
      have : (List.range (i + 1 + 1)).map (fun j => dRow (ends b j)) = (List.range (i + 1)).map (fun j => dRow (ends b j)) ++ [dRow (ends b (i + 1))] := by rw [List.range_succ (n := i + 1), List.map_append]; rfl
      rw [this]
      have e : dRow (ends b (i + 1)) = .tup (b.map fun W => dOpt (dist (tied W (ends b i)) 0 1)) := by
        unfold dRow
        show Dat.tup (List.map dOpt (List.map (fun g => dist (tied g (ends b i)) 0 1) b)) = _
        rw [List.map_map]; rfl
      rw [e]
      rfl
  · rintro ρ' ⟨c, d, rfl⟩
    refine ss_one (s_retV (i := 2) rfl (.inr (.inl rfl)) rfl ?_)
    have : (rangeD 0 ((m : Nat) : Int).toNat).length = m := by simp [rangeD]
    rw [this]
    exact hΦ
theorem ok_need_places (F : Fun K "need_places" "need_places" s_need_places f fd) (B : Bt mg) (h_need_garden : HasFn P w K mg base "need_garden" 8 (spD CP sp_need_garden)) (h_is_place : HasFn P w K mg base "is_place" 3 (spD CP sp_is_place)) : FnOk P w K mg base CX0 9 f fd ["garden", "some"] (spD CP sp_need_places) := by
  refine fnD F sc_need_places (by decide) (fun ws Φ ⟨i, l, p, q, h, _⟩ => by rw [h]; rfl) fun cdv A outer s0 H E G ws Φ hC hr hS => ?_
  obtain ⟨s, b, p, q, rfl, ok, hp, hq, hΦ⟩ := hS
  refine ss_cons (s_expr (Ev.then (w := .d .non) (ev_call0 h_need_garden (hr.mono (by decide)) rfl (eva_cons (vd (i := 0) rfl rfl) eva_nil) ⟨s, b, rfl, ok, rfl, (fun z => nomatch z), rfl⟩) ?_))
  refine ss_one (s_for pat_name rfl (pg_name (i := 2) (sc_need_places).nd rfl (.inl rfl)) PassesOwn.never (ei_tup (Ev.then (vd (i := 1) rfl rfl) ⟨_, rfl, fun i ρ' => ∃ c, ρ' = [some (.d (dGarden s b)), some (.d (.tup [dN p, dN q])), c], ⟨_, rfl⟩, ?_, ?_⟩)))
  · rintro i d ρ' hd ⟨c, rfl⟩
    obtain ⟨v, hv, rfl⟩ : ∃ v, v < s.n ∧ d = dN v := by
      match i, hd with
      | 0, hd => cases hd; exact ⟨p, hp, rfl⟩
      | 1, hd => cases hd; exact ⟨q, hq, rfl⟩
    refine ⟨_, rfl, ss_one (s_ifF (EvT.is (evT_not (evT_val (ev_call0 (w := .d (.bl true)) h_is_place (hr.mono (by decide)) rfl (eva_cons (ev_ix (vd (i := 0) rfl rfl) ev_int rfl rfl) (eva_cons (vd (i := 2) rfl rfl) eva_nil)) ⟨s, v, rfl, hv, rfl, (fun z => nomatch z), rfl⟩))) rfl) (ss_nil ⟨_, rfl⟩))⟩
  · rintro ρ' ⟨c, rfl⟩
    exact hΦ
theorem ok_need_unlike (F : Fun K "need_unlike" "need_unlike" s_need_unlike f fd) (B : Bt mg) (h_need_places : HasFn P w K mg base "need_places" 9 (spD CP sp_need_places)) : FnOk P w K mg base CX0 10 f fd ["garden", "p", "q"] (spD CP sp_need_unlike) := by
  refine fnD F sc_need_unlike (by decide) (fun ws Φ ⟨i, l, p, q, h, _⟩ => by rw [h]; rfl) fun cdv A outer s0 H E G ws Φ hC hr hS => ?_
  obtain ⟨s, b, p, q, rfl, ok, hp, hq, hpq, hΦ⟩ := hS
  refine ss_cons (s_expr (Ev.then (w := .d .non) (ev_call0 h_need_places (hr.mono (by decide)) rfl (eva_cons (vd (i := 0) rfl rfl) (eva_cons (ev_tup (eva_cons (vd (i := 1) rfl rfl) (eva_cons (vd (i := 2) rfl rfl) eva_nil)) (.cons (.cons .nil))) eva_nil)) ⟨s, b, p, q, rfl, ok, hp, hq, rfl, (fun z => nomatch z), rfl⟩) ?_))
  refine ss_one (s_ifF (EvT.is (et_eqI (vd (i := 1) rfl rfl) (vd (i := 2) rfl rfl)) ?_) (ss_nil hΦ))
  simp; omega
theorem ok_need_question (F : Fun K "need_question" "need_question" s_need_question f fd) (B : Bt mg) (h_need_unlike : HasFn P w K mg base "need_unlike" 10 (spD CP sp_need_unlike)) (h_need_from : HasFn P w K mg base "need_from" 2 (spD CP sp_need_from)) : FnOk P w K mg base CX0 11 f fd ["garden", "p", "q", "n", "d"] (spD CP sp_need_question) := by
  refine fnD F sc_need_question (by decide) (fun ws Φ ⟨i, l, p, q, m, d, h, _⟩ => by rw [h]; rfl) fun cdv A outer s0 H E G ws Φ hC hr hS => ?_
  obtain ⟨s, b, p, q, m, d, rfl, ok, hp, hq, hpq, hd, hΦ⟩ := hS
  refine ss_cons (s_expr (Ev.then (w := .d .non) (ev_call0 h_need_unlike (hr.mono (by decide)) rfl (eva_cons (vd (i := 0) rfl rfl) (eva_cons (vd (i := 1) rfl rfl) (eva_cons (vd (i := 2) rfl rfl) eva_nil))) ⟨s, b, p, q, rfl, ok, hp, hq, hpq, rfl, (fun z => nomatch z), rfl⟩) ?_))
  refine ss_cons (s_expr (Ev.then (w := .d .non) (ev_call0 h_need_from (hr.mono (by decide)) rfl (eva_cons (vd (i := 3) rfl rfl) (eva_cons ev_int eva_nil)) ⟨m, 0, rfl, by omega, rfl, (fun z => nomatch z), rfl⟩) ?_))
  refine ss_one (s_expr (Ev.then (w := .d .non) (ev_call0 h_need_from (hr.mono (by decide)) rfl (eva_cons (vd (i := 4) rfl rfl) (eva_cons ev_int eva_nil)) ⟨d, 0, rfl, hd, rfl, (fun z => nomatch z), rfl⟩) ?_))
  exact hΦ
theorem ok_distance_after (F : Fun K "distance_after" "distance_after" s_distance_after f fd) (B : Bt mg) (h_need_places : HasFn P w K mg base "need_places" 9 (spD CP sp_need_places)) (h_need_from : HasFn P w K mg base "need_from" 2 (spD CP sp_need_from)) (h_end_rows : HasFn P w K mg base "end_rows" 3 (spD CP sp_end_rows))
    (h_sums_from : HasFn P w K mg base "sums_from" 2 (spD CP sp_sums_from)) (h_tied_lengths : HasFn P w K mg base "tied_lengths" 1 (spD CP sp_tied_lengths)) : FnOk P w K mg base CX0 10 f fd ["garden", "p", "q", "n"] (spD CP sp_distance_after) := by
  refine fnD F sc_distance_after (by decide) (fun ws Φ ⟨i, l, p, q, m, h, _⟩ => by rw [h]; rfl) fun cdv A outer s0 H E G ws Φ hC hr hS => ?_
  obtain ⟨s, b, p, q, m, rfl, ok, hp, hq, hm, hΦ⟩ := hS
  refine ss_cons (s_expr (Ev.then (w := .d .non) (ev_call0 h_need_places (hr.mono (by decide)) rfl (eva_cons (vd (i := 0) rfl rfl) (eva_cons (ev_tup (eva_cons (vd (i := 1) rfl rfl) (eva_cons (vd (i := 2) rfl rfl) eva_nil)) (.cons (.cons .nil))) eva_nil)) ⟨s, b, p, q, rfl, ok, hp, hq, rfl, (fun z => nomatch z), rfl⟩) ?_))
  refine ss_cons (s_expr (Ev.then (w := .d .non) (ev_call0 h_need_from (hr.mono (by decide)) rfl (eva_cons (vd (i := 3) rfl rfl) (eva_cons ev_int eva_nil)) ⟨m, 0, rfl, by omega, rfl, (fun z => nomatch z), rfl⟩) ?_))
  refine ss_cons (s_pat pat_two (pg_tup rfl (pgs_cons (pg_name (i := 4) (sc_distance_after).nd rfl (.inl rfl)) (pgs_cons (pg_name (i := 5) (sc_distance_after).nd rfl (.inl rfl)) pgs_nil))) (Ev.then (vd (i := 0) rfl rfl) ⟨_, _, rfl, ⟨_, _, rfl, rfl⟩, ?_⟩))
  refine ss_one (s_ret (Ev.then (ev_ix (w := .lst true ((rowOf s.n (dist (tied s (ends b m)) p)).map dOpt)) (d := dOpt (far s b m p q)) ?e1 (vd (i := 2) rfl rfl) rfl ?e2) hΦ))
  case e1 => exact ev_sums (W := s) (r := ends b m) (p := p) h_sums_from h_tied_lengths (hr.mono (by decide)) rfl rfl (by rw [ends_length]; exact ok.start) (ends_pos b m) hp (vd (i := 4) rfl rfl) ev_int (vd (i := 4) rfl rfl) (ev_ix (ev_call0 (w := .lst true ((List.range (m + 1)).map fun i => dRow (ends b i))) h_end_rows (hr.mono (by decide)) rfl (eva_cons (vd (i := 5) rfl rfl) (eva_cons (vd (i := 3) rfl rfl) eva_nil)) ⟨b, m, rfl, ok.book, hm, rfl, (fun z => nomatch z), rfl⟩) (vd (i := 3) rfl rfl) rfl (atI_rangeR (by omega))) (vd (i := 1) rfl rfl)
  case e2 =>
    have := atI_row (r := rowOf s.n (dist (tied s (ends b m)) p)) (c := q) (by rw [rowOf_len]; exact hq)
    rw [rowOf_at hq] at this
    exact this
end
end Md
end P3Part
section Mm3Part
set_option Elab.async false
set_option linter.all false
set_option maxRecDepth 100000
set_option maxHeartbeats 2000000
/-! Ways by tie numbers; tables of ways. -/
namespace Md
def Other (t : Tie) (v u : Nat) : Prop := (v = t.1 ∧ u = t.2.1) ∨ (v = t.2.1 ∧ u = t.1)
/-- from v by the ties numbered ns over the places ms, x in all -/
inductive Wy (W : Web) (r : Row) : Nat → List Nat → List Nat → Int → Prop
  | nil {v : Nat} : Wy W r v [] [] 0
  | cons {v j u : Nat} {t : Tie} {l x : Int} {ns ms : List Nat} (h : W.ts[j]? = some t) (o : Other t v u) (hl : r.at t.2.2 = some l) (k : Wy W r u ns ms x) : Wy W r v (j :: ns) (u :: ms) (l + x)
def WayTo (W : Web) (r : Row) (p q : Nat) (ns : List Nat) (x : Int) : Prop := ∃ ms, Wy W r p ns ms x ∧ (p :: ms).Nodup ∧ ms.getLastD p = q
section
variable {W : Web} {r : Row} {k : Nat}
theorem Wy.len {v : Nat} {ns ms : List Nat} {x : Int} (w : Wy W r v ns ms x) : ms.length = ns.length := by
  induction w with
  | nil => rfl
  | cons h o hl k ih => simp [ih]
theorem Other.inn {t : Tie} {v u : Nat} (o : Other t v u) (ok : W.Ok k) (m : t ∈ W.ts) : u < W.n := by
  obtain ⟨h1, h2, _⟩ := ok.ties t m
  rcases o with ⟨_, rfl⟩ | ⟨_, rfl⟩
  · exact h2
  · exact h1
theorem Wy.inn (ok : W.Ok k) {v : Nat} {ns ms : List Nat} {x : Int} (w : Wy W r v ns ms x) : ∀ u, u ∈ ms → u < W.n := by
  induction w with
  | nil => intro u h; cases h
  | cons h o hl k ih =>
    intro u hu
    rcases List.mem_cons.mp hu with rfl | hu
    · exact o.inn ok (List.mem_of_getElem? h)
    · exact ih u hu
theorem Wy.nums {v : Nat} {ns ms : List Nat} {x : Int} (w : Wy W r v ns ms x) : ∀ j, j ∈ ns → j < W.ts.length := by
  induction w with
  | nil => intro u h; cases h
  | cons h o hl k ih =>
    intro u hu
    rcases List.mem_cons.mp hu with rfl | hu
    · exact (List.getElem?_eq_some_iff.mp h).1
    · exact ih u hu
theorem Wy.pos (hp : RowPos r) {v : Nat} {ns ms : List Nat} {x : Int} (w : Wy W r v ns ms x) : (ns.length : Int) ≤ x := by
  induction w with
  | nil => exact Int.le_refl _
  | cons h o hl k ih => have := hp _ _ hl; simp; omega
theorem Wy.le {L : Int} (hL : ∀ c l, r.at c = some l → l ≤ L) {v : Nat} {ns ms : List Nat} {x : Int} (w : Wy W r v ns ms x) : x ≤ (ns.length : Int) * L := by
  induction w with
  | nil => simp
  | cons h o hl k ih =>
    have := hL _ _ hl
    rw [List.length_cons, Int.natCast_add, Int.add_mul]
    omega
theorem nodup_len : ∀ {n : Nat} {l : List Nat}, l.Nodup → (∀ u, u ∈ l → u < n) → l.length ≤ n
  | 0, [], _, _ => Nat.le_refl _
  | 0, a :: t, _, h => absurd (h a List.mem_cons_self) (Nat.not_lt_zero a)
  | n + 1, l, nd, h => by
    have h1 := nodup_len (n := n) (l := l.erase n) (nd.erase n) fun u hu => by
      rw [nd.mem_erase_iff] at hu
      have := h u hu.2
      have := hu.1
      omega
    rw [List.length_erase] at h1
    split at h1 <;> omega
theorem WayTo.few (ok : W.Ok k) {p q : Nat} {ns : List Nat} {x : Int} (hp : p < W.n) (w : WayTo W r p q ns x) : ns.length ≤ 6 := by
  obtain ⟨ms, h, nd, _⟩ := w
  have h1 := nodup_len nd fun u hu => by
    rcases List.mem_cons.mp hu with rfl | hu
    · exact hp
    · exact h.inn ok u hu
  have := h.len
  have := ok.small
  simp at h1
  omega
theorem getLastD_cons' (a b : Nat) (l : List Nat) : (a :: l).getLastD b = l.getLastD a := by cases l <;> rfl
theorem wayTo_pos (hp : RowPos r) {p q : Nat} {ns : List Nat} {x : Int} (hpq : p ≠ q) (w : WayTo W r p q ns x) : 1 ≤ x := by
  obtain ⟨ms, h, nd, hl⟩ := w
  have h1 := h.pos hp
  cases h with
  | nil => exact absurd hl hpq
  | cons h o hl k => simp at h1; omega
/-- one tie more, behind -/
theorem Wy.snoc {v : Nat} {ns ms : List Nat} {x : Int} (w : Wy W r v ns ms x) : ∀ {j u a : Nat} {t : Tie} {l : Int}, ms.getLastD v = a → W.ts[j]? = some t → Other t a u → r.at t.2.2 = some l → Wy W r v (ns ++ [j]) (ms ++ [u]) (x + l) := by
  induction w with
  | nil =>
    intro j u a t l ha h o hl
    subst ha
    have := Wy.cons h o hl (Wy.nil (W := W) (r := r))
    rw [Int.add_comm] at this
    exact this
  | @cons v j' u' t' l' x' ns' ms' h' o' hl' k' ih =>
    intro j u a t l ha h o hl
    rw [getLastD_cons'] at ha
    have := Wy.cons h' o' hl' (ih ha h o hl)
    rw [← Int.add_assoc] at this
    exact this
theorem WayTo.snoc {p a u j : Nat} {t : Tie} {l x : Int} {ns : List Nat} (w : ∃ ms, Wy W r p ns ms x ∧ (p :: ms).Nodup ∧ ms.getLastD p = a) (h : W.ts[j]? = some t) (o : Other t a u) (hl : r.at t.2.2 = some l) (hu : ∀ ms, Wy W r p ns ms x → u ∉ p :: ms) :
    ∃ ms, Wy W r p (ns ++ [j]) ms (x + l) ∧ (p :: ms).Nodup ∧ ms.getLastD p = u := by
  obtain ⟨ms, w, nd, e⟩ := w
  refine ⟨ms ++ [u], w.snoc e h o hl, ?_, by simp [List.getLastD_eq_getLast?]⟩
  rw [← List.cons_append, List.nodup_append]
  refine ⟨nd, by simp, fun a ha b hb => ?_⟩
  simp at hb
  subst hb
  intro z
  subst z
  exact hu ms w ha
/-- a way's walk -/
theorem Wy.walk {es : List Edge} (he : es = tied W r) {p v : Nat} {ns ms : List Nat} {x y : Int} (w : Wy W r v ns ms x) : Walk es p v y → Walk es p (ms.getLastD v) (y + x) := by
  induction w generalizing y with
  | nil => intro h; simpa using h
  | @cons v j u t l x ns ms h o hl k ih =>
    intro hw
    rw [getLastD_cons', ← Int.add_assoc]
    refine ih ?_
    have hm := List.mem_of_getElem? h
    obtain ⟨a, b, c⟩ := t
    rcases o with ⟨rfl, rfl⟩ | ⟨rfl, rfl⟩
    · exact .there hw (by rw [he]; exact tied_mem.mpr ⟨c, hm, hl⟩)
    · exact .back hw (by rw [he]; exact tied_mem.mpr ⟨c, hm, hl⟩)
end
/-! ### tables of ways -/
abbrev Item := Option (List Nat)
/-- a table: for every web a way from 0 to 1, or none; the lengths behind it -/
structure Tab (b : List Web) (r : Row) (tab : List Item) (r' : Row) : Prop where
  len : tab.length = b.length
  len' : r'.length = b.length
  non : ∀ c W, b[c]? = some W → tab[c]? = some none → r'.at c = none
  way : ∀ c W ns, b[c]? = some W → tab[c]? = some (some ns) → ∃ x, r'.at c = some x ∧ WayTo W r 0 1 ns x
def ones (b : List Web) : Row := b.map fun _ => some 1
/-- tables, one behind another -/
structure Tabs (b : List Web) (rows : Nat → Row) (tabs : List (List Item)) : Prop where
  first : rows 0 = ones b
  step : ∀ i tab, tabs[i]? = some tab → Tab b (rows i) tab (rows (i + 1))
theorem ones_pos (b : List Web) : RowPos (ones b) := ends_pos b 0
theorem ones_len (b : List Web) : (ones b).length = b.length := by simp [ones]
theorem Tab.pos {b : List Web} {r r' : Row} {tab : List Item} (t : Tab b r tab r') (hp : RowPos r) : RowPos r' := fun c l h => by
  have hc : c < b.length := by
    by_cases hc : c < b.length
    · exact hc
    · rw [row_out (by rw [t.len']; omega)] at h; cases h
  have hW : b[c]? = some b[c] := List.getElem?_eq_getElem hc
  have hct : c < tab.length := by rw [t.len]; exact hc
  have hT : tab[c]? = some tab[c] := List.getElem?_eq_getElem hct
  cases e : tab[c] with
  | none => rw [e] at hT; rw [t.non c _ hW hT] at h; cases h
  | some ns =>
    rw [e] at hT
    obtain ⟨x, hx, w⟩ := t.way c _ ns hW hT
    rw [hx] at h; cases h
    exact wayTo_pos hp (by decide) w
theorem Tabs.pos {b : List Web} {rows : Nat → Row} {tabs : List (List Item)} (t : Tabs b rows tabs) : ∀ i, i ≤ tabs.length → RowPos (rows i)
  | 0, _ => by rw [t.first]; exact ones_pos b
  | i + 1, h => (t.step i _ (List.getElem?_eq_getElem (by omega))).pos (t.pos i (by omega))
theorem Tabs.len {b : List Web} {rows : Nat → Row} {tabs : List (List Item)} (t : Tabs b rows tabs) : ∀ i, i ≤ tabs.length → (rows i).length = b.length
  | 0, _ => by rw [t.first]; exact ones_len b
  | i + 1, h => (t.step i _ (List.getElem?_eq_getElem (by omega))).len'
end Md
end Mm3Part
section P4Part
set_option Elab.async false
set_option linter.all false
set_option maxRecDepth 100000
set_option maxHeartbeats 2000000
/-! distances.py: ways -/
namespace Md
open PySem L2
def dItem : Item → Dat
  | none => .non
  | some ns => .tup (ns.map dN)
def IsItem (W : Web) (r : Row) (p q : Nat) (it : Item) : Prop := (it = none ∧ dist (tied W r) p q = none) ∨ ∃ ns x, it = some ns ∧ dist (tied W r) p q = some x ∧ WayTo W r p q ns x
def sp_way_by : Spec := fun ws Φ => ∃ (W : Web) (r : Row) (p q : Nat), ws = [.d (dWeb W), .d (dRow r), .d (dN p), .d (dN q)] ∧ W.Ok r.length ∧ RowPos r ∧ p < W.n ∧ q < W.n ∧ ∀ it, IsItem W r p q it → Φ (.d (dItem it))
section
variable {F : Fr} {X : Cx} {ρ : Env1} {e ea eb : Expr} {pos pt : Pos} {kk : Nat} {x a b : Nat}
theorem in2 : decide ((x : Int) ∈ [(a : Int), (b : Int)]) = decide (x = a ∨ x = b) := by
  simp only [List.mem_cons, List.not_mem_nil, or_false, decide_eq_decide]
  omega
theorem et_in2 (h : Ev F X e ρ (.d (dN x))) (ha : Ev F X ea ρ (.d (dN a))) (hb : Ev F X eb ρ (.d (dN b))) (hm : behindInMarks .In (.Tuple [ea, eb] kk pt) = false := by rfl) (hs1 : starEach [ea, eb] X.env = (false, eval ea X.env) :: starEach [eb] X.env := by rfl) (hs2 : starEach [eb] X.env = (false, eval eb X.env) :: starEach [] X.env := by rfl) :
    EvT F X (.Compare e [.In] [.Tuple [ea, eb] kk pt] pos) ρ (decide (x = a ∨ x = b)) :=
  et_inI op_in_seq hm (h.then ⟨_, rfl, Ev.then (ev_tup (eva_cons ha (eva_cons hb eva_nil hs2) hs1) (.cons (.cons .nil))) ⟨[(a : Int), (b : Int)], rfl, in2⟩⟩)
theorem et_notin2 (h : Ev F X e ρ (.d (dN x))) (ha : Ev F X ea ρ (.d (dN a))) (hb : Ev F X eb ρ (.d (dN b))) (hm : behindInMarks .NotIn (.Tuple [ea, eb] kk pt) = false := by rfl) (hs1 : starEach [ea, eb] X.env = (false, eval ea X.env) :: starEach [eb] X.env := by rfl) (hs2 : starEach [eb] X.env = (false, eval eb X.env) :: starEach [] X.env := by rfl) :
    EvT F X (.Compare e [.NotIn] [.Tuple [ea, eb] kk pt] pos) ρ (!decide (x = a ∨ x = b)) :=
  et_inI op_notIn_seq hm (h.then ⟨_, rfl, Ev.then (ev_tup (eva_cons ha (eva_cons hb eva_nil hs2) hs1) (.cons (.cons .nil))) ⟨[(a : Int), (b : Int)], rfl, by rw [← in2]; rfl⟩⟩)
end
section
variable {P : Program} {w : World} {K : PySem.W.Frag} {mg : Str → Option Value} {base : Heap} {f : Addr} {fd : FuncData}
noncomputable abbrev WbE (W : Web) (r : Row) (p q : Nat) (fs : List Nat) (h : Nat) (a b c d e : Option Md.W) : Env1 :=
  [some (.d (dWeb W)), some (.d (dRow r)), some (.d (dN p)), some (.d (dN q)), some (.lst true ((rowOf W.n (dist (tied W r) p)).map dOpt)), some (.lst true (fs.map dN)), some (.d (dN h)), a, b, c, d, e]
structure WbI (W : Web) (r : Row) (p q : Nat) (dq : Int) (fs : List Nat) (h : Nat) (y : Int) : Prop where
  lt : h < W.n
  d : dist (tied W r) p h = some y
  way : ∃ ms x, Wy W r h fs.reverse ms x ∧ (h :: ms).Nodup ∧ ms.getLastD h = q ∧ (∀ u, u ∈ ms → ∃ z, dist (tied W r) p u = some z ∧ y < z) ∧ y + x = dq
def WbC (W : Web) (r : Row) (p h : Nat) (y : Int) (t : Tie) : Prop := ∃ u l z, Other t h u ∧ r.at t.2.2 = some l ∧ dist (tied W r) p u = some z ∧ z + l = y
theorem wb_step {W : Web} {r : Row} {p q h j u : Nat} {dq y l z : Int} {fs : List Nat} {t : Tie} (ok : W.Ok r.length) (hp : RowPos r) (I : WbI W r p q dq fs h y) (hj : W.ts[j]? = some t) (o : Other t u h) (hl : r.at t.2.2 = some l) (hu : dist (tied W r) p u = some z) (e : z + l = y) :
    WbI W r p q dq (fs ++ [j]) u z ∧ z.toNat < y.toNat := by
  obtain ⟨ms, x, wy, nd, la, hi, hx⟩ := I.way
  have l1 := hp _ _ hl
  have z0 := dist_nonneg (tied_pos hp) hu
  have hut : u < W.n := by
    obtain ⟨h1, h2, _⟩ := ok.ties t (List.mem_of_getElem? hj)
    rcases o with ⟨rfl, _⟩ | ⟨rfl, _⟩
    · exact h1
    · exact h2
  refine ⟨⟨hut, hu, h :: ms, l + x, ?_, ?_, ?_, ?_, by omega⟩, by omega⟩
  · rw [List.reverse_append]
    exact .cons hj o hl wy
  · refine List.nodup_cons.mpr ⟨fun m => ?_, nd⟩
    rcases List.mem_cons.mp m with rfl | m
    · rw [I.d] at hu; cases hu; omega
    · obtain ⟨z', h1, h2⟩ := hi u m
      rw [hu] at h1; cases h1; omega
  · rw [getLastD_cons']; exact la
  · intro v m
    rcases List.mem_cons.mp m with rfl | m
    · exact ⟨y, I.d, by omega⟩
    · obtain ⟨z', h1, h2⟩ := hi v m
      exact ⟨z', h1, by omega⟩
theorem ok_way_by (F : Fun K "way_by" "way_by" s_way_by f fd) (B : Bt mg) (h_sums_from : HasFn P w K mg base "sums_from" 2 (spD CP sp_sums_from)) (h_tied_lengths : HasFn P w K mg base "tied_lengths" 1 (spD CP sp_tied_lengths)) : FnOk P w K mg base CX0 3 f fd ["web", "numbers", "p", "q"] (spD CP sp_way_by) := by
  refine fnD F sc_way_by (by decide) (fun ws Φ ⟨i, l, p, q, h, _⟩ => by rw [h]; rfl) fun cdv A outer s0 H E G ws Φ hC hr hS => ?_
  obtain ⟨W, r, p, q, rfl, ok, pos, hp, hq, hΦ⟩ := hS
  have at_ : ∀ v, v < W.n → atI ((rowOf W.n (dist (tied W r) p)).map dOpt) (v : Int) = some (dOpt (dist (tied W r) p v)) := fun v hv => by
    have := atI_row (r := rowOf W.n (dist (tied W r) p)) (c := v) (by rw [rowOf_len]; exact hv)
    rw [rowOf_at hv] at this
    exact this
  refine ss_cons (s_set (i := 4) (sc_way_by).nd rfl (.inl rfl) (Ev.then (ev_sums (W := W) (r := r) (p := p) h_sums_from h_tied_lengths (hr.mono (by decide)) rfl rfl ok pos hp (vd (i := 0) rfl rfl) ev_int (vd (i := 0) rfl rfl) (vd (i := 1) rfl rfl) (vd (i := 2) rfl rfl)) ⟨rfl, ?_⟩))
  refine ss_cons (s_if (EvT.then (et_isN (ev_ix (vl (i := 4) rfl rfl) (vd (i := 3) rfl rfl) rfl (at_ q hq))) ⟨fun hb => ?_, fun hb => ?_⟩))
  · rw [isNon_opt] at hb
    have hn : dist (tied W r) p q = none := by cases e : dist (tied W r) p q with | none => rfl | some z => rw [e] at hb; cases hb
    exact ss_one (s_ret (Ev.then ev_non (hΦ none (.inl ⟨rfl, hn⟩))))
  rw [isNon_opt] at hb
  obtain ⟨dq, hdq⟩ : ∃ dq, dist (tied W r) p q = some dq := by cases e : dist (tied W r) p q with | none => rw [e] at hb; cases hb | some z => exact ⟨z, rfl⟩
  refine ss_nil (ss_cons (s_par2 (i := 5) (j := 6) rfl (sc_way_by).nd rfl rfl (by decide) rfl rfl (Ev.then (ev_lst eva_nil .nil) ⟨rfl, Ev.then (vd (i := 3) rfl rfl) ⟨rfl, ?_⟩⟩)))
  refine ss_cons (s_while (fun m ρ' => ∃ fs h y a b c d e, ρ' = WbE W r p q fs h a b c d e ∧ WbI W r p q dq fs h y ∧ m = y.toNat) _
    ⟨[], q, dq, _, _, _, _, _, rfl, ⟨hq, hdq, [], 0, .nil, by simp, rfl, (fun u hu => by cases hu), by omega⟩, rfl⟩ PassesOwn.never ?_)
  rintro m ρ' ⟨fs, h, y, a7, a8, a9, a10, a11, rfl, I, rfl⟩
  refine EvT.then (et_neI (vd (i := 6) rfl rfl) (vd (i := 2) rfl rfl)) ⟨fun hne => ?_, fun hne => ?_⟩
  · have hne' : h ≠ p := by
      intro z; subst z; simp at hne
    refine ss_one (s_for pat_enum rfl (pg_tup rfl (pgs_cons (pg_name (i := 7) (sc_way_by).nd rfl (.inl rfl)) (pgs_cons (pg_tup rfl (pgs_cons (pg_name (i := 8) (sc_way_by).nd rfl (.inl rfl)) (pgs_cons (pg_name (i := 9) (sc_way_by).nd rfl (.inl rfl)) (pgs_cons (pg_name (i := 10) (sc_way_by).nd rfl (.inl rfl)) pgs_nil)))) pgs_nil))) PassesOwn.never
      (ei_enum rfl B.enumerate (Ev.then (ev_ix (vd (i := 0) rfl rfl) ev_int rfl rfl) ⟨_, rfl, fun i ρ' => ∃ a b c d e, ρ' = WbE W r p q fs h a b c d e ∧ ∀ j t, j < i → W.ts[j]? = some t → ¬ WbC W r p h y t, ⟨_, _, _, _, _, rfl, fun j t hj => absurd hj (Nat.not_lt_zero j)⟩, ?_, ?_⟩)))
    · rintro i d ρ' hd ⟨b7, b8, b9, b10, b11, rfl, hno⟩
      have hi : i < W.ts.length := by
        have := (List.getElem?_eq_some_iff.mp hd).1
        rwa [enumD_len, List.length_map] at this
      obtain ⟨t, ht⟩ : ∃ t, W.ts[i]? = some t := ⟨_, List.getElem?_eq_getElem hi⟩
      have hd2 : d = .tup [.int (i : Int), dTie t] := by
        rw [enumD_get (d := dTie t) (by rw [List.getElem?_map, ht]; rfl)] at hd
        exact (Option.some.inj hd).symm
      subst hd2
      obtain ⟨t1, t2, t3, t4⟩ := ok.ties t (List.mem_of_getElem? ht)
      refine ⟨_, ⟨_, _, _, _, rfl, rfl⟩, ?_⟩
      -- far
      obtain ⟨u, hu⟩ : ∃ u, u = if h = t.1 then t.2.1 else t.1 := ⟨_, rfl⟩
      have hun : u < W.n := by rw [hu]; split <;> assumption
      refine ss_cons (s_set (i := 11) (sc_way_by).nd rfl (.inl rfl) (Ev.then (w := .d (dN u)) (ec_if (EvT.then (et_eqI (vd (i := 6) rfl rfl) (vd (i := 8) rfl rfl)) ⟨fun hz => Ev.is (vd (i := 9) rfl rfl) ?f1, fun hz => Ev.is (vd (i := 8) rfl rfl) ?f2⟩)) ⟨rfl, ?_⟩))
      case f1 => rw [hu, if_pos (by have := of_decide_eq_true hz; omega)]
      case f2 => rw [hu, if_neg (by have := of_decide_eq_false hz; omega)]
      have stay : ¬ WbC W r p h y t → ∃ a b c d e, WbE W r p q fs h (some (.d (.int (i : Int)))) (some (.d (dN t.1))) (some (.d (dN t.2.1))) (some (.d (dN t.2.2))) (some (.d (dN u))) = WbE W r p q fs h a b c d e ∧ ∀ j t, j < i + 1 → W.ts[j]? = some t → ¬ WbC W r p h y t := fun hn => by
        refine ⟨_, _, _, _, _, rfl, fun j t' hj hjt => ?_⟩
        by_cases hji : j = i
        · subst hji
          rw [ht] at hjt; cases hjt
          exact hn
        · exact hno j t' (by omega) hjt
      by_cases hO : h = t.1 ∨ h = t.2.1
      · have oth : Other t u h := by
          rcases hO with e | e
          · exact .inr ⟨by rw [hu, if_pos e], e⟩
          · by_cases e1 : h = t.1
            · exact .inr ⟨by rw [hu, if_pos e1], e1⟩
            · exact .inl ⟨by rw [hu, if_neg e1], e⟩
        have oth2 : Other t h u := by rcases oth with ⟨e1, e2⟩ | ⟨e1, e2⟩; exact .inr ⟨e2, e1⟩; exact .inl ⟨e2, e1⟩
        have uni : ∀ u', Other t h u' → u' = u := fun u' o => by
          rcases o with ⟨e1, e2⟩ | ⟨e1, e2⟩ <;> rcases oth2 with ⟨e3, e4⟩ | ⟨e3, e4⟩ <;> first | omega | exact absurd (e1.symm.trans e3) (by omega)
        have gr : atI (r.map dOpt) (t.2.2 : Int) = some (dOpt (r.at t.2.2)) := atI_row t4
        cases hl : r.at t.2.2 with
        | none =>
          rw [hl] at gr
          refine ss_one (s_ifF (EvT.is (evT_and3 (q := false) (r := false) (et_in2 (vd (i := 6) rfl rfl) (vd (i := 8) rfl rfl) (vd (i := 9) rfl rfl)) (fun _ => (et_notN (ev_ix (vd (i := 1) rfl rfl) (vd (i := 10) rfl rfl) rfl gr))) (fun _ z => nomatch z)) (by simp)) (ss_nil (stay fun ⟨u', l, z, _, h2, _⟩ => by rw [hl] at h2; cases h2)))
        | some l =>
          rw [hl] at gr
          have gu := at_ u hun
          cases hd : dist (tied W r) p u with
          | none =>
            rw [hd] at gu
            refine ss_one (s_ifF (EvT.is (evT_and3 (r := false) (et_in2 (vd (i := 6) rfl rfl) (vd (i := 8) rfl rfl) (vd (i := 9) rfl rfl)) (fun _ => (et_notN (ev_ix (vd (i := 1) rfl rfl) (vd (i := 10) rfl rfl) rfl gr))) (fun _ _ => (et_notN (ev_ix (vl (i := 4) rfl rfl) (vd (i := 11) rfl rfl) rfl gu)))) (by simp)) (ss_nil (stay fun ⟨u', l', z, h1, _, h3, _⟩ => by rw [uni u' h1, hd] at h3; cases h3)))
          | some z =>
            rw [hd] at gu
            have gh := at_ h I.lt
            rw [I.d] at gh
            refine ss_one (s_ifT (EvT.is (evT_and3 (et_in2 (vd (i := 6) rfl rfl) (vd (i := 8) rfl rfl) (vd (i := 9) rfl rfl)) (fun _ => (et_notN (ev_ix (vd (i := 1) rfl rfl) (vd (i := 10) rfl rfl) rfl gr))) (fun _ _ => (et_notN (ev_ix (vl (i := 4) rfl rfl) (vd (i := 11) rfl rfl) rfl gu)))) (by simp [hO, dOpt, isNon])) ?_)
            refine ss_one (s_if (EvT.then (et_eqI (ev_add (ev_ix (vl (i := 4) rfl rfl) (vd (i := 11) rfl rfl) rfl gu) (ev_ix (vd (i := 1) rfl rfl) (vd (i := 10) rfl rfl) rfl gr)) (ev_ix (vl (i := 4) rfl rfl) (vd (i := 6) rfl rfl) rfl gh)) ⟨fun hb => ?_, fun hb => ?_⟩))
            · have e : z + l = y := of_decide_eq_true hb
              obtain ⟨I2, hlt⟩ := wb_step ok pos I ht oth hl hd e
              have hfl : fs.length ≤ 1000 := by
                obtain ⟨ms, x, wy, nd, la, hi2, hx⟩ := I.way
                have h1 := nodup_len nd fun v hv => by
                  rcases List.mem_cons.mp hv with rfl | hv
                  · exact I.lt
                  · exact wy.inn ok v hv
                have h2 := wy.len
                have := ok.small
                simp at h1 h2
                omega
              refine ss_cons (s_app (i := 5) rfl (.inl rfl) rfl (by rw [List.length_map]; omega) (Ev.then (vd (i := 7) rfl rfl) ⟨_, rfl, ?_⟩))
              refine ss_cons (s_set (i := 6) (sc_way_by).nd rfl (.inl rfl) (Ev.then (vd (i := 11) rfl rfl) ⟨rfl, ?_⟩))
              refine ss_one (s_break ⟨_, hlt, fs ++ [i], u, z, some (.d (.int (i : Int))), some (.d (dN t.1)), some (.d (dN t.2.1)), some (.d (dN t.2.2)), some (.d (dN u)), ?_, I2, rfl⟩)
              have : (fs ++ [i]).map dN = fs.map dN ++ [Dat.int (i : Int)] := by rw [List.map_append]; rfl
              unfold WbE
              rw [this]
              rfl
            · have e : ¬ z + l = y := of_decide_eq_false hb
              refine ss_nil (stay fun ⟨u', l', z', h1, h2, h3, h4⟩ => e ?_)
              rw [uni u' h1, hd] at h3
              rw [hl] at h2
              cases h2; cases h3
              exact h4
      · refine ss_one (s_ifF (EvT.is (evT_and3 (q := false) (r := false) (et_in2 (vd (i := 6) rfl rfl) (vd (i := 8) rfl rfl) (vd (i := 9) rfl rfl)) (fun z => absurd (of_decide_eq_true z) hO) (fun z => absurd (of_decide_eq_true z) hO)) (by simp)) (ss_nil (stay fun ⟨u', l, z, h1, _⟩ => hO ?_)))
        rcases h1 with ⟨e1, _⟩ | ⟨e1, _⟩
        · exact .inl e1
        · exact .inr e1
    · rintro ρ' ⟨b7, b8, b9, b10, b11, rfl, hno⟩
      exfalso
      obtain ⟨u, z, l, me, hu, e⟩ := dist_last (tied_pos pos) I.d hne'
      obtain ⟨t, ht, o, hl⟩ : ∃ t, t ∈ W.ts ∧ Other t h u ∧ r.at t.2.2 = some l := by
        rcases me with me | me
        · obtain ⟨c, hm, hl⟩ := tied_mem.mp me
          exact ⟨_, hm, .inr ⟨rfl, rfl⟩, hl⟩
        · obtain ⟨c, hm, hl⟩ := tied_mem.mp me
          exact ⟨_, hm, .inl ⟨rfl, rfl⟩, hl⟩
      obtain ⟨j, hj⟩ := List.getElem?_of_mem ht
      refine hno j t ?_ hj ⟨u, l, z, o, hl, hu, e.symm⟩
      rw [enumD_len, List.length_map]
      exact (List.getElem?_eq_some_iff.mp hj).1
  · have e : h = p := by
      have := of_decide_eq_true (show decide ((h : Int) = (p : Int)) = true by simpa using hne)
      omega
    subst e
    have y0 : y = 0 := by
      have := I.d
      rw [dist_self (tied_pos pos)] at this
      cases this; rfl
    subst y0
    refine ss_one (s_ret (ec_tuple rfl B.tuple (ec_rev (Ev.then (vl (i := 5) rfl rfl) ⟨_, _, rfl, _, rfl, ?_⟩))))
    rw [← List.map_reverse]
    obtain ⟨ms, x, wy, nd, la, hi2, hx⟩ := I.way
    exact hΦ (some fs.reverse) (.inr ⟨_, x, rfl, by rw [hdq]; congr 1; omega, ms, wy, nd, la⟩)
end
end Md
end P4Part
section Mm4Part
set_option Elab.async false
set_option linter.all false
set_option maxRecDepth 100000
set_option maxHeartbeats 2000000
/-! Heights; the check of heights as a Bool. -/
namespace Md
def cap (M : Int) : Option Int → Int
  | none => M
  | some x => if M < x then M else x
noncomputable def hts (W : Web) (r : Row) (p : Nat) (M : Int) : List Int := (rowOf W.n (dist (tied W r) p)).map (cap M)
def at0 (h : List Int) (i : Nat) : Int := h.getD i 0
def rowI (st : List Int) : Row := st.map some
noncomputable def tabOf (b : List Web) (st : List Int) (M : Int) : List (List Int) := b.map fun g => hts g (rowI st) 0 M
def ovSt (tab : List (List Int)) : List Int := tab.map fun h => at0 h 1
noncomputable def stp (b : List Web) (M : Int) : Nat → List Int
  | 0 => b.map fun _ => 1
  | i + 1 => ovSt (tabOf b (stp b M i) M)
def absI (x : Int) : Int := if x < 0 then -x else x
def flatB (W : Web) (st : List Int) (h : List Int) : Bool := W.ts.all fun t => decide (absI (at0 h t.1 - at0 h t.2.1) ≤ at0 st t.2.2)
def ovIt (st : List Int) (W : Web) (h : List Int) : Bool := flatB W st h && (decide (at0 h 0 = 0) && decide (0 ≤ at0 h 1))
def ovOk (b : List Web) (st : List Int) (tab : List (List Int)) : Bool := (b.zip tab).all fun p => ovIt st p.1 p.2
def ovRun (b : List Web) : List Int → List (List (List Int)) → Option (List Int)
  | st, [] => some st
  | st, t :: ts => if ovOk b st t then ovRun b (ovSt t) ts else none
def overB (s : Web) (b : List Web) (p q : Nat) (d : Int) (tabs : List (List (List Int))) (h : List Int) : Bool :=
  match ovRun b (b.map fun _ => 1) tabs with
  | none => false
  | some st => flatB s st h && (decide (at0 h p = 0) && decide (d < at0 h q))
/-- the tables are of the book's form -/
def TabForm (b : List Web) (tab : List (List Int)) : Prop := tab.length = b.length ∧ ∀ (c : Nat) (W : Web) (h : List Int), b[c]? = some W → tab[c]? = some h → h.length = W.n
theorem rowI_len (st : List Int) : (rowI st).length = st.length := by simp [rowI]
theorem rowI_at {st : List Int} {c : Nat} (h : c < st.length) : (rowI st).at c = some (at0 st c) := by
  unfold Row.at rowI at0
  rw [List.getD_eq_getElem?_getD, List.getD_eq_getElem?_getD, List.getElem?_map, List.getElem?_eq_getElem h]
  rfl
theorem hts_len (W : Web) (r : Row) (p : Nat) (M : Int) : (hts W r p M).length = W.n := by unfold hts; rw [List.length_map, rowOf_len]
theorem hts_at {W : Web} {r : Row} {p v : Nat} {M : Int} (h : v < W.n) : at0 (hts W r p M) v = cap M (dist (tied W r) p v) := by
  unfold at0 hts rowOf
  rw [List.map_map, List.getD_eq_getElem?_getD, List.getElem?_map, List.getElem?_range h]
  rfl
theorem tabOf_len (b : List Web) (st : List Int) (M : Int) : (tabOf b st M).length = b.length := by simp [tabOf]
theorem stp_len (b : List Web) (M : Int) : ∀ i, (stp b M i).length = b.length
  | 0 => by simp [stp]
  | i + 1 => by simp [stp, ovSt, tabOf_len]
theorem cap_pos {M : Int} (hM : 1 ≤ M) {o : Option Int} (h : ∀ x, o = some x → 1 ≤ x) : 1 ≤ cap M o := by
  cases o with
  | none => exact hM
  | some x => have := h x rfl; unfold cap; simp only; split <;> omega
theorem stp_at {b : List Web} {M : Int} {i c : Nat} {g : Web} (h : b[c]? = some g) : at0 (stp b M (i + 1)) c = at0 (hts g (rowI (stp b M i)) 0 M) 1 := by
  show at0 (ovSt (tabOf b (stp b M i) M)) c = _
  generalize stp b M i = st
  unfold ovSt tabOf at0
  rw [List.map_map, List.getD_eq_getElem?_getD, List.getElem?_map, h]
  rfl
theorem stp_pos {b : List Web} (ok : BookOk b) {M : Int} (hM : 1 ≤ M) : ∀ i, RowPos (rowI (stp b M i))
  | 0 => fun c l h => by
    have hc : c < b.length := by
      by_cases hc : c < b.length
      · exact hc
      · rw [row_out (by rw [rowI_len, stp_len]; omega)] at h; cases h
    rw [rowI_at (by rw [stp_len]; exact hc)] at h
    cases h
    show 1 ≤ at0 (b.map fun _ => 1) c
    unfold at0
    rw [List.getD_eq_getElem?_getD, List.getElem?_map, List.getElem?_eq_getElem hc]
    exact Int.le_refl _
  | i + 1 => fun c l h => by
    have hc : c < b.length := by
      by_cases hc : c < b.length
      · exact hc
      · rw [row_out (by rw [rowI_len, stp_len]; omega)] at h; cases h
    rw [rowI_at (by rw [stp_len]; exact hc)] at h
    cases h
    have hg : b[c]? = some b[c] := List.getElem?_eq_getElem hc
    rw [stp_at hg]
    have h2 := (ok.each _ (List.getElem_mem hc)).2
    rw [hts_at (by omega)]
    exact cap_pos hM fun x hx => dist_pos (tied_pos (stp_pos ok hM i)) hx (by decide)
/-! ### what the heights made are -/
theorem cap_flat {es : List Edge} {p u v : Nat} {l M : Int} (hp : PosE es) (m : (u, v, l) ∈ es ∨ (v, u, l) ∈ es) (hM : 0 ≤ M) : cap M (dist es p v) - cap M (dist es p u) ≤ l := by
  have l1 : 1 ≤ l := by rcases m with m | m <;> exact hp _ m
  cases hu : dist es p u with
  | none =>
    have : cap M (dist es p v) ≤ M := by cases dist es p v with | none => exact Int.le_refl _ | some x => unfold cap; simp only; split <;> omega
    show cap M (dist es p v) - M ≤ l
    omega
  | some x =>
    obtain ⟨y, hy, hle⟩ := dist_edge hp m hu
    rw [hy]
    unfold cap
    simp only
    split <;> split <;> omega
theorem hts_flat {W : Web} {k : Nat} (ok : W.Ok k) {st : List Int} (hl : st.length = k) {p : Nat} {M : Int} (hp : RowPos (rowI st)) (hM : 0 ≤ M) : flatB W st (hts W (rowI st) p M) = true := by
  unfold flatB
  rw [List.all_eq_true]
  intro t ht
  obtain ⟨h1, h2, h3, h4⟩ := ok.ties t ht
  obtain ⟨a, c, k'⟩ := t
  simp only at h1 h2 h3 h4 ⊢
  have hm : (a, c, at0 st k') ∈ tied W (rowI st) := tied_mem.mpr ⟨k', ht, rowI_at (by rw [hl]; exact h4)⟩
  rw [hts_at h1, hts_at h2, decide_eq_true_eq]
  have e1 := cap_flat (p := p) (M := M) (tied_pos hp) (.inl hm) hM
  have e2 := cap_flat (p := p) (M := M) (tied_pos hp) (.inr hm) hM
  unfold absI
  split <;> omega
theorem made_ok {b : List Web} (ok : BookOk b) {M : Int} (hM : 1 ≤ M) (i : Nat) : ovOk b (stp b M i) (tabOf b (stp b M i) M) = true := by
  unfold ovOk tabOf
  rw [List.all_eq_true]
  intro pr hpr
  obtain ⟨W, h⟩ := pr
  rw [List.zip_map_right] at hpr
  obtain ⟨⟨W1, W2⟩, hm, e⟩ := List.mem_map.mp hpr
  have e12 : W1 = W2 ∧ W1 ∈ b := by
    obtain ⟨j, hj⟩ := List.getElem?_of_mem hm
    rw [List.getElem?_zip_eq_some] at hj
    obtain ⟨h1, h2⟩ := hj
    rw [h1] at h2
    exact ⟨Option.some.inj h2, List.mem_of_getElem? h1⟩
  obtain ⟨e12, hb⟩ := e12
  subst e12
  simp only [Prod.map, id, Prod.mk.injEq] at e
  obtain ⟨e1, e2⟩ := e
  subst e1
  subst e2
  obtain ⟨gok, g2⟩ := ok.each W1 hb
  have pos := stp_pos ok hM i
  show ovIt _ _ _ = true
  unfold ovIt
  rw [hts_flat gok (stp_len b M i) pos (by omega), hts_at (by omega), hts_at (by omega), dist_self (tied_pos pos)]
  have : 1 ≤ cap M (dist (tied W1 (rowI (stp b M i))) 0 1) := cap_pos hM fun x hx => dist_pos (tied_pos pos) hx (by decide)
  have e0 : cap M (some 0) = 0 := by unfold cap; simp only; rw [if_neg (by omega)]
  rw [e0]
  simp
  omega
noncomputable def oTabs (b : List Web) (M : Int) (m : Nat) : List (List (List Int)) := (List.range m).map fun i => tabOf b (stp b M i) M
theorem run_made {b : List Web} (ok : BookOk b) {M : Int} (hM : 1 ≤ M) : ∀ (m i : Nat), ovRun b (stp b M i) ((List.range' i m).map fun j => tabOf b (stp b M j) M) = some (stp b M (i + m))
  | 0, i => rfl
  | m + 1, i => by
    rw [List.range'_succ, List.map_cons]
    show (if ovOk b (stp b M i) (tabOf b (stp b M i) M) = true then _ else _) = _
    rw [if_pos (made_ok ok hM i)]
    have := run_made ok hM m (i + 1)
    rw [show i + 1 + m = i + (m + 1) from by omega] at this
    exact this
/-- lower bounds: a walk by steps is not shorter than M, or than a walk by the end numbers -/
theorem walk_cap {W : Web} {r s : Row} {p v : Nat} {M x : Int} (hr : RowPos r) (hs : ∀ c l, s.at c = some l → 0 ≤ l ∧ cap M (r.at c) ≤ l) (w : Walk (tied W s) p v x) : 0 ≤ x ∧ (M ≤ x ∨ ∃ y, y ≤ x ∧ Walk (tied W r) p v y) := by
  induction w with
  | nil => exact ⟨Int.le_refl _, .inr ⟨0, Int.le_refl _, .nil⟩⟩
  | @there u v x l h m ih =>
    obtain ⟨h0, ih⟩ := ih
    obtain ⟨c, hm, hl⟩ := tied_mem.mp m
    obtain ⟨l0, lc⟩ := hs c l hl
    refine ⟨by omega, ?_⟩
    rcases ih with ih | ⟨y, hy, wy⟩
    · exact .inl (by omega)
    · cases e : r.at c with
      | none => rw [e] at lc; unfold cap at lc; simp only at lc; exact .inl (by omega)
      | some z =>
        rw [e] at lc
        unfold cap at lc
        simp only at lc
        split at lc
        · exact .inl (by omega)
        · exact .inr ⟨y + z, by omega, .there wy (tied_mem.mpr ⟨c, hm, e⟩)⟩
  | @back u v x l h m ih =>
    obtain ⟨h0, ih⟩ := ih
    obtain ⟨c, hm, hl⟩ := tied_mem.mp m
    obtain ⟨l0, lc⟩ := hs c l hl
    refine ⟨by omega, ?_⟩
    rcases ih with ih | ⟨y, hy, wy⟩
    · exact .inl (by omega)
    · cases e : r.at c with
      | none => rw [e] at lc; unfold cap at lc; simp only at lc; exact .inl (by omega)
      | some z =>
        rw [e] at lc
        unfold cap at lc
        simp only at lc
        split at lc
        · exact .inl (by omega)
        · exact .inr ⟨y + z, by omega, .back wy (tied_mem.mpr ⟨c, hm, e⟩)⟩
theorem cap_low {W : Web} {r s : Row} {p v : Nat} {M : Int} (hr : RowPos r) (hsp : RowPos s) (hs : ∀ c l, s.at c = some l → 0 ≤ l ∧ cap M (r.at c) ≤ l) : cap M (dist (tied W r) p v) ≤ cap M (dist (tied W s) p v) := by
  have le : ∀ o, cap M o ≤ M := fun o => by cases o with | none => exact Int.le_refl _ | some x => unfold cap; simp only; split <;> omega
  cases e : dist (tied W s) p v with
  | none => exact le _
  | some x =>
    obtain ⟨_, h | ⟨y, hy, wy⟩⟩ := walk_cap hr hs (dist_some.mp e).1
    · have : cap M (some x) = M := by unfold cap; simp only; split <;> omega
      rw [this]; exact le _
    · obtain ⟨z, hz, hzy⟩ := dist_walk (tied_pos hr) wy
      rw [hz]
      unfold cap
      simp only
      split <;> split <;> omega
theorem stp_low {b : List Web} (ok : BookOk b) {M : Int} (hM : 1 ≤ M) : ∀ i c l, (rowI (stp b M i)).at c = some l → 0 ≤ l ∧ cap M ((ends b i).at c) ≤ l
  | 0, c, l, h => by
    have h1 := stp_pos ok hM 0 c l h
    refine ⟨by omega, ?_⟩
    have hc : c < b.length := by
      by_cases hc : c < b.length
      · exact hc
      · rw [row_out (by rw [rowI_len, stp_len]; omega)] at h; cases h
    have : (ends b 0).at c = some 1 := by unfold ends; rw [at_map, List.getElem?_eq_getElem hc]; rfl
    rw [this]
    unfold cap
    simp only
    split <;> omega
  | i + 1, c, l, h => by
    have h1 := stp_pos ok hM (i + 1) c l h
    refine ⟨by omega, ?_⟩
    have hc : c < b.length := by
      by_cases hc : c < b.length
      · exact hc
      · rw [row_out (by rw [rowI_len, stp_len]; omega)] at h; cases h
    rw [rowI_at (by rw [stp_len]; exact hc)] at h
    cases h
    have hg : b[c]? = some b[c] := List.getElem?_eq_getElem hc
    have h2 := (ok.each _ (List.getElem_mem hc)).2
    have : (ends b (i + 1)).at c = dist (tied b[c] (ends b i)) 0 1 := by show Row.at (b.map fun g => dist (tied g (ends b i)) 0 1) c = _; rw [at_map, hg]; rfl
    rw [this, stp_at hg, hts_at (by omega)]
    exact cap_low (ends_pos b i) (stp_pos ok hM i) (stp_low ok hM i)
/-- the certificate of a far pair holds -/
theorem over_made {s : Web} {b : List Web} (ok : GardenOk s b) {p q m : Nat} {d : Int} (hd : 0 ≤ d) (hp : p < s.n) (hq : q < s.n) (hf : ∀ y, far s b m p q = some y → d < y) :
    overB s b p q d (oTabs b (d + 1) m) (hts s (rowI (stp b (d + 1) m)) p (d + 1)) = true := by
  have hM : 1 ≤ d + 1 := by omega
  have hrun := run_made ok.book hM m 0
  rw [Nat.zero_add, ← List.range_eq_range'] at hrun
  have hrun' : ovRun b (b.map fun _ => 1) (oTabs b (d + 1) m) = some (stp b (d + 1) m) := hrun
  unfold overB
  rw [hrun']
  simp only
  have pos := stp_pos ok.book hM m
  rw [hts_flat ok.start (stp_len b _ m) pos (by omega), hts_at hp, hts_at hq, dist_self (tied_pos pos)]
  have e0 : cap (d + 1) (some 0) = 0 := by unfold cap; simp only; rw [if_neg (by omega)]
  have h1 := cap_low (W := s) (p := p) (v := q) (ends_pos b m) pos (stp_low ok.book hM m)
  have h2 : cap (d + 1) (dist (tied s (ends b m)) p q) = d + 1 := by
    cases e : dist (tied s (ends b m)) p q with
    | none => rfl
    | some y => have := hf y e; unfold cap; simp only; split <;> omega
  rw [h2] at h1
  rw [e0]
  simp
  omega
end Md
end Mm4Part
section P5Part
set_option Elab.async false
set_option linter.all false
set_option maxRecDepth 100000
set_option maxHeartbeats 2000000
/-! distances.py: the two papers, judge_near -/
namespace Md
open PySem L2
def dInts (h : List Int) : Dat := .tup (h.map Dat.int)
def dTabI (t : List (List Int)) : Dat := .tup (t.map dInts)
def dTabW (t : List Item) : Dat := .tup (t.map dItem)
def dNear (tabs : List (List Item)) (ns : List Nat) : Dat := .tup [.str "near", .tup (tabs.map dTabW), .tup (ns.map dN)]
def dOver (tabs : List (List (List Int))) (h : List Int) : Dat := .tup [.str "over", .tup (tabs.map dTabI), dInts h]
def sp_heights_by : Spec := fun ws Φ => ∃ (W : Web) (r : Row) (p : Nat) (M : Int), ws = [.d (dWeb W), .d (dRow r), .d (dN p), .d (.int M)] ∧ W.Ok r.length ∧ RowPos r ∧ p < W.n ∧ Φ (.d (dInts (hts W r p M)))
def sp_near_paper : Spec := fun ws Φ => ∃ (s : Web) (b : List Web) (p q m : Nat) (x : Int), ws = [.d (dGarden s b), .d (dN p), .d (dN q), .lst false ((List.range (m + 1)).map fun i => dRow (ends b i))] ∧ GardenOk s b ∧ m ≤ 1000 ∧ p < s.n ∧ q < s.n ∧ far s b m p q = some x ∧
  ∀ tabs ns, Tabs b (ends b) tabs → tabs.length = m → WayTo s (ends b m) p q ns x → Φ (.d (dNear tabs ns))
def sp_over_paper : Spec := fun ws Φ => ∃ (s : Web) (b : List Web) (p m : Nat) (d : Int), ws = [.d (dGarden s b), .d (dN p), .d (dN m), .d (.int d)] ∧ GardenOk s b ∧ m ≤ 1000 ∧ p < s.n ∧ 0 ≤ d ∧
  Φ (.d (dOver (oTabs b (d + 1) m) (hts s (rowI (stp b (d + 1) m)) p (d + 1))))
theorem outs_ex {α β : Type} {enc : β → Dat} {R : α → β → Prop} {xs : List α} {out : List Dat} (o : Outs (fun x r => ∃ y, r = some (enc y) ∧ R x y) xs out) : ∃ ys : List β, out = ys.map enc ∧ ys.length = xs.length ∧ ∀ (i : Nat) (x : α) (y : β), xs[i]? = some x → ys[i]? = some y → R x y := by
  induction o with
  | nil => exact ⟨[], rfl, rfl, fun i x y h => by simp at h⟩
  | @yes x y xs ys h t ih =>
    obtain ⟨z, e, hr⟩ := h
    cases e
    obtain ⟨zs, e1, e2, e3⟩ := ih
    refine ⟨z :: zs, by rw [e1]; rfl, by simp [e2], fun i a b' ha hb => ?_⟩
    cases i with
    | zero => simp at ha hb; subst ha; subst hb; exact hr
    | succ i => exact e3 i a b' (by simpa using ha) (by simpa using hb)
  | no h t ih => obtain ⟨z, e, _⟩ := h; cases e
theorem take_last {α : Type} {f : Nat → α} {m : Nat} : ((List.range (m + 1)).map f).take (HT.sIx ((List.range (m + 1)).map f).length ((List.range (m + 1)).map f).length (some (-1))) = (List.range m).map f := by
  have : HT.sIx ((List.range (m + 1)).map f).length ((List.range (m + 1)).map f).length (some (-1)) = m := by
    unfold HT.sIx
    simp
    omega
  rw [this, ← List.map_take, List.take_range]
  congr 1
  simp
section
variable {P : Program} {w : World} {K : PySem.W.Frag} {mg : Str → Option Value} {base : Heap} {f : Addr} {fd : FuncData}
theorem ok_heights_by (F : Fun K "heights_by" "heights_by" s_heights_by f fd) (B : Bt mg) (h_sums_from : HasFn P w K mg base "sums_from" 2 (spD CP sp_sums_from)) (h_tied_lengths : HasFn P w K mg base "tied_lengths" 1 (spD CP sp_tied_lengths)) : FnOk P w K mg base CX0 3 f fd ["web", "steps", "place", "most"] (spD CP sp_heights_by) := by
  refine fnD F sc_heights_by (by decide) (fun ws Φ ⟨i, l, p, q, h, _⟩ => by rw [h]; rfl) fun cdv A outer s0 H E G ws Φ hC hr hS => ?_
  obtain ⟨W, r, p, M, rfl, ok, pos, hp, hΦ⟩ := hS
  refine ss_cons (s_set (i := 4) (sc_heights_by).nd rfl (.inl rfl) (Ev.then (ev_sums (W := W) (r := r) (p := p) h_sums_from h_tied_lengths (hr.mono (by decide)) rfl rfl ok pos hp (vd (i := 0) rfl rfl) ev_int (vd (i := 0) rfl rfl) (vd (i := 1) rfl rfl) (vd (i := 2) rfl rfl)) ⟨rfl, ?_⟩))
  refine ss_one (s_ret (ec_tuple rfl B.tuple (EC.frz 4 ?_)))
  refine ec_lc (own := [("item", 5)]) (rowOf W.n (dist (tied W r) p)) dOpt (fun o x => x = some (.int (cap M o))) pat_name rfl (sc_heights_by).nd (blkOk_by (N := N_heights_by) (sc := defScope s_heights_by) (by decide +kernel)) (by simp) (by rw [rowOf_len]; have := ok.small; omega) (fun s H C cl fp => pg_name (i := 5) (sc_heights_by).nd rfl (.inl rfl))
    (ei_var (i := 4) rfl (.inl rfl) rfl rfl) (fun o ho => ⟨_, rfl, fun s H C cl fp => ets_nil ⟨fun _ s H C cl fp => ?_, fun e => nomatch e⟩⟩) fun out ho => ?_
  · refine ec_if (EvT.then (et_isN (vd (i := 5) rfl rfl)) ⟨fun hb => ?_, fun hb => ?_⟩)
    · rw [isNon_opt] at hb
      cases o with
      | none => exact Ev.then (vd (i := 3) rfl rfl) ⟨_, rfl, rfl⟩
      | some z => cases hb
    · rw [isNon_opt] at hb
      cases o with
      | none => cases hb
      | some z => exact ec_min rfl rfl B.min (EvA.then (eva_cons (vd (i := 5) rfl rfl) (eva_cons (vd (i := 3) rfl rfl) eva_nil)) ⟨z, M, rfl, _, rfl, rfl⟩)
  · refine ⟨_, rfl, ?_⟩
    rw [outs_map (f := fun o => Dat.int (cap M o)) ho]
    have : dInts (hts W r p M) = .tup ((rowOf W.n (dist (tied W r) p)).map fun o => Dat.int (cap M o)) := by unfold dInts hts; rw [List.map_map]; rfl
    rw [← this]
    exact hΦ
theorem ok_near_paper (F : Fun K "near_paper" "near_paper" s_near_paper f fd) (B : Bt mg) (h_way_by : HasFn P w K mg base "way_by" 3 (spD CP sp_way_by)) : FnOk P w K mg base CX0 4 f fd ["garden", "p", "q", "rows"] (spD CP sp_near_paper) := by
  refine fnD F sc_near_paper (by decide) (fun ws Φ ⟨i, l, p, q, m, x, h, _⟩ => by rw [h]; rfl) fun cdv A outer s0 H E G ws Φ hC hr hS => ?_
  obtain ⟨s, b, p, q, m, x, rfl, ok, hm, hp, hq, hx, hΦ⟩ := hS
  refine ss_cons (s_pat pat_two (pg_tup rfl (pgs_cons (pg_name (i := 4) (sc_near_paper).nd rfl (.inl rfl)) (pgs_cons (pg_name (i := 5) (sc_near_paper).nd rfl (.inr rfl)) pgs_nil))) (Ev.then (vd (i := 0) rfl rfl) ⟨_, _, rfl, ⟨_, _, rfl, rfl⟩, ?_⟩))
  refine ss_cons (s_lc (i := 6) (own := [("numbers", 7)]) (List.range m) (fun i => dRow (ends b i)) (fun i r => ∃ tab, r = some (dTabW tab) ∧ Tab b (ends b i) tab (ends b (i + 1))) pat_name rfl (sc_near_paper).nd rfl rfl rfl (blkOk_by (N := N_near_paper) (sc := defScope s_near_paper) (by decide +kernel)) (by simp) (by simp; omega) (fun s H C cl fp => pg_name (i := 7) (sc_near_paper).nd rfl (.inr rfl))
    (ei_new (ec_sliceTo (Ev.then (vl (i := 3) rfl rfl) ⟨_, _, rfl, Ev.then ev_negc ⟨_, rfl, _, rfl, take_last⟩⟩))) (fun i hi => ⟨_, rfl, fun s H C cl fp => ets_nil ⟨fun _ s H C cl fp => ec_tuple rfl B.tuple ?_, fun e => nomatch e⟩⟩) fun out ho => ?_)
  · refine ec_lc (own := [("web", 8)]) b dWeb (fun W r => ∃ it, r = some (dItem it) ∧ IsItem W (ends b i) 0 1 it) pat_name rfl (sc_near_paper).nd (blkOk_by (by kernel_rfl)) (by simp) (by have := ok.book.three; omega) (fun s H C cl fp => pg_name (i := 8) (sc_near_paper).nd rfl (.inl rfl))
      (ei_tup (Ev.then (vd (i := 5) rfl rfl) ⟨_, rfl, rfl⟩)) (fun W hW => ⟨_, rfl, fun s H C cl fp => ets_nil ⟨fun _ s H C cl fp => ?_, fun e => nomatch e⟩⟩) fun out ho => ?_
    · obtain ⟨gok, g2⟩ := ok.book.each W hW
      exact ec_call0 h_way_by (hr.mono (by decide)) rfl (EvA.then (eva_cons (vd (i := 8) rfl rfl) (eva_cons (vd (i := 7) rfl rfl) (eva_cons ev_int (eva_cons ev_int eva_nil)))) ⟨rfl, W, ends b i, 0, 1, rfl, by rw [ends_length]; exact gok, ends_pos b i, by omega, by omega, fun it hit => ⟨rfl, (fun z => nomatch z), _, rfl, it, rfl, hit⟩⟩)
    · obtain ⟨tab, e1, e2, e3⟩ := outs_ex ho
      refine ⟨_, rfl, _, rfl, tab, by rw [e1]; rfl, e2, ends_length b (i + 1), fun c W hW ht => ?_, fun c W ns hW ht => ?_⟩
      · have : (ends b (i + 1)).at c = dist (tied W (ends b i)) 0 1 := by show Row.at (b.map fun g => dist (tied g (ends b i)) 0 1) c = _; rw [at_map, hW]; rfl
        rw [this]
        rcases e3 c W _ hW ht with ⟨_, h⟩ | ⟨ns, x, h, _⟩
        · exact h
        · cases h
      · have : (ends b (i + 1)).at c = dist (tied W (ends b i)) 0 1 := by show Row.at (b.map fun g => dist (tied g (ends b i)) 0 1) c = _; rw [at_map, hW]; rfl
        rw [this]
        rcases e3 c W _ hW ht with ⟨h, _⟩ | ⟨ns', x, h, h2, h3⟩
        · cases h
        · cases h; exact ⟨x, h2, h3⟩
  · obtain ⟨tabs, e1, e2, e3⟩ := outs_ex ho
    rw [List.length_range] at e2
    have T : Tabs b (ends b) tabs := ⟨rfl, fun i tab h => e3 i i tab (List.getElem?_range (by have := (List.getElem?_eq_some_iff.mp h).1; omega)) h⟩
    refine ss_one (s_ret (ec_tup (ea_cons (Ev.then ev_str (ea_cons (Ev.then (ev_tuple rfl B.tuple (vl (i := 6) rfl rfl) rfl) (ea_cons ?_)))))))
    refine ec_call0 h_way_by (hr.mono (by decide)) rfl (EvA.then (eva_cons (vd (i := 4) rfl rfl) (eva_cons (ev_ix (vl (i := 3) rfl rfl) ev_negc rfl atI_lastR) (eva_cons (vd (i := 1) rfl rfl) (eva_cons (vd (i := 2) rfl rfl) eva_nil)))) ⟨rfl, s, ends b m, p, q, rfl, by rw [ends_length]; exact ok.start, ends_pos b m, hp, hq, fun it hit => ⟨rfl, (fun z => nomatch z), ?_⟩⟩)
    rcases hit with ⟨_, h⟩ | ⟨ns, y, rfl, h2, h3⟩
    · have hx' : dist (tied s (ends b m)) p q = some x := hx
      rw [h] at hx'; cases hx'
    · have hx' : dist (tied s (ends b m)) p q = some x := hx
      rw [h2] at hx'; cases hx'
      refine ea_nil ⟨_, .cons (.cons (.cons .nil)), by simp, ?_⟩
      rw [e1]
      exact hΦ tabs ns T e2 h3
theorem ok_over_paper (F : Fun K "over_paper" "over_paper" s_over_paper f fd) (B : Bt mg) (h_heights_by : HasFn P w K mg base "heights_by" 3 (spD CP sp_heights_by)) : FnOk P w K mg base CX0 4 f fd ["garden", "p", "n", "d"] (spD CP sp_over_paper) := by
  refine fnD F sc_over_paper (by decide) (fun ws Φ ⟨i, l, p, q, m, h, _⟩ => by rw [h]; rfl) fun cdv A outer s0 H E G ws Φ hC hr hS => ?_
  obtain ⟨s, b, p, m, d, rfl, ok, hm, hp, hd, hΦ⟩ := hS
  have h3 := ok.book.three
  have h1 := ok.book.one
  have hM : 1 ≤ d + 1 := by omega
  refine ss_cons (s_pat pat_two (pg_tup rfl (pgs_cons (pg_name (i := 4) (sc_over_paper).nd rfl (.inl rfl)) (pgs_cons (pg_name (i := 5) (sc_over_paper).nd rfl (.inl rfl)) pgs_nil))) (Ev.then (vd (i := 0) rfl rfl) ⟨_, _, rfl, ⟨_, _, rfl, rfl⟩, ?_⟩))
  refine ss_cons (s_par2c (i := 6) (j := 7) rfl (sc_over_paper).nd rfl rfl (.inr rfl) (.inl rfl) (ec_repT (Ev.then (ev_tup (eva_cons ev_int eva_nil) (.cons .nil)) ⟨_, rfl, Ev.then (ev_len rfl B.len (vd (i := 5) rfl rfl) rfl) ⟨_, rfl, by rw [List.length_map]; omega, by rw [List.length_map]; omega, rfl, Ev.then (ev_lst eva_nil .nil) ⟨rfl, ?_⟩⟩⟩)))
  rw [List.length_map, Int.toNat_natCast, row0_rep]
  have e0 : (ends b 0).map dOpt = (rowI (stp b (d + 1) 0)).map dOpt := by
    unfold ends rowI stp
    rw [List.map_map, List.map_map, List.map_map]
    rfl
  rw [e0]
  refine ss_cons (s_for pat_name rfl (pg_name (i := 8) (sc_over_paper).nd rfl (.inl rfl)) PassesOwn.never (ei_range1 rfl B.range (Ev.then (vd (i := 2) rfl rfl) ⟨_, rfl, by omega, by omega,
    fun i ρ' => ∃ c8 c9, ρ' = [some (.d (dGarden s b)), some (.d (dN p)), some (.d (dN m)), some (.d (.int d)), some (.d (dWeb s)), some (.d (dBook b)), some (.d (dRow (rowI (stp b (d + 1) i)))), some (.lst true ((oTabs b (d + 1) i).map dTabI)), c8, c9, none, none], ⟨_, _, rfl⟩, ?_, ?_⟩)))
  · rintro i dd ρ' hdd ⟨c8, c9, rfl⟩
    have hi : i < m := by
      have := (List.getElem?_eq_some_iff.mp hdd).1
      simpa [rangeD] using this
    have pos := stp_pos ok.book hM i
    refine ⟨_, rfl, ?_⟩
    refine ss_cons (s_set (i := 9) (sc_over_paper).nd rfl (.inl rfl) (ec_tuple rfl B.tuple ?_))
    refine ec_lc (own := [("web", 10)]) b dWeb (fun W r => r = some (dInts (hts W (rowI (stp b (d + 1) i)) 0 (d + 1)))) pat_name rfl (sc_over_paper).nd (blkOk_by (N := N_over_paper) (sc := defScope s_over_paper) (by decide +kernel)) (by simp) (by omega) (fun s H C cl fp => pg_name (i := 10) (sc_over_paper).nd rfl (.inl rfl))
      (ei_tup (Ev.then (vd (i := 5) rfl rfl) ⟨_, rfl, rfl⟩)) (fun W hW => ⟨_, rfl, fun s H C cl fp => ets_nil ⟨fun _ s H C cl fp => ?_, fun e => nomatch e⟩⟩) fun out ho => ?_
    · obtain ⟨gok, g2⟩ := ok.book.each W hW
      exact Ev.then (w := .d (dInts (hts W (rowI (stp b (d + 1) i)) 0 (d + 1)))) (ev_call0 h_heights_by (hr.mono (by decide)) rfl (eva_cons (vd (i := 10) rfl rfl) (eva_cons (vd (i := 6) rfl rfl) (eva_cons ev_int (eva_cons (ev_add (vd (i := 3) rfl rfl) ev_int) eva_nil)))) ⟨W, _, 0, _, rfl, by rw [rowI_len, stp_len]; exact gok, pos, by omega, rfl, (fun z => nomatch z), rfl⟩) ⟨_, rfl, rfl⟩
    · have eo := outs_map (f := fun W => dInts (hts W (rowI (stp b (d + 1) i)) 0 (d + 1))) ho
      have eo2 : out = (tabOf b (stp b (d + 1) i) (d + 1)).map dInts := by rw [eo]; unfold tabOf; rw [List.map_map]; rfl
      subst eo2
      refine ⟨_, rfl, rfl, ?_⟩
      refine ss_cons (s_app (i := 7) rfl (.inl rfl) rfl (by simp [oTabs]; omega) (Ev.then (vd (i := 9) rfl rfl) ⟨_, rfl, ?_⟩))
      refine ss_one (s_set (i := 6) (sc_over_paper).nd rfl (.inr rfl) (ec_tuple rfl B.tuple ?_))
      refine ec_lc (own := [("heights", 11)]) (tabOf b (stp b (d + 1) i) (d + 1)) dInts (fun h r => r = some (.int (at0 h 1))) pat_name rfl (sc_over_paper).nd (blkOk_by (N := N_over_paper) (sc := defScope s_over_paper) (by decide +kernel)) (by simp) (by rw [tabOf_len]; omega) (fun s H C cl fp => pg_name (i := 11) (sc_over_paper).nd rfl (.inl rfl))
        (ei_tup (Ev.then (vd (i := 9) rfl rfl) ⟨_, rfl, rfl⟩)) (fun h hh => ⟨_, rfl, fun s H C cl fp => ets_nil ⟨fun _ s H C cl fp => ?_, fun e => nomatch e⟩⟩) fun out ho => ?_
      · have hl : 1 < h.length := by
          unfold tabOf at hh
          obtain ⟨W, hW, rfl⟩ := List.mem_map.mp hh
          rw [hts_len]
          exact (ok.book.each W hW).2
        have e : atI (h.map Dat.int) 1 = some (.int (at0 h 1)) := by
          have := atI_map (f := Dat.int) (xs := h) (j := 1) (x := h[1]) (List.getElem?_eq_getElem hl)
          rw [show at0 h 1 = h[1] from by unfold at0; rw [List.getD_eq_getElem?_getD, List.getElem?_eq_getElem hl]; rfl]
          exact this
        exact Ev.then (ev_ix (vd (i := 11) rfl rfl) ev_int rfl e) ⟨_, rfl, rfl⟩
      · have eo := outs_map (f := fun h => Dat.int (at0 h 1)) ho
        have eo2 : Dat.tup out = dRow (rowI (stp b (d + 1) (i + 1))) := by
          rw [eo]
          show _ = dRow (rowI (ovSt (tabOf b (stp b (d + 1) i) (d + 1))))
          unfold dRow rowI ovSt
          rw [List.map_map, List.map_map]
          rfl
        have et : (oTabs b (d + 1) (i + 1)).map dTabI = (oTabs b (d + 1) i).map dTabI ++ [dTabI (tabOf b (stp b (d + 1) i) (d + 1))] := by
          unfold oTabs
          rw [List.range_succ, List.map_append, List.map_append]
          rfl
        refine ⟨_, rfl, rfl, some (.d dd), some (.d (dTabI (tabOf b (stp b (d + 1) i) (d + 1)))), ?_⟩
        rw [et, eo2]
        rfl
  · rintro ρ' ⟨c8, c9, rfl⟩
    have : (rangeD 0 ((m : Nat) : Int).toNat).length = m := by simp [rangeD]
    rw [this]
    refine ss_one (s_ret (ec_tup (ea_cons (Ev.then ev_str (ea_cons (Ev.then (ev_tuple rfl B.tuple (vl (i := 7) rfl rfl) rfl) (ea_cons ?_)))))))
    exact Ev.then (w := .d (dInts (hts s (rowI (stp b (d + 1) m)) p (d + 1)))) (ev_call0 h_heights_by (hr.mono (by decide)) rfl (eva_cons (vd (i := 4) rfl rfl) (eva_cons (vd (i := 6) rfl rfl) (eva_cons (vd (i := 1) rfl rfl) (eva_cons (ev_add (vd (i := 3) rfl rfl) ev_int) eva_nil)))) ⟨s, _, p, _, rfl, by rw [rowI_len, stp_len]; exact ok.start, stp_pos ok.book hM m, hp, rfl, (fun z => nomatch z), rfl⟩)
      (ea_nil ⟨_, .cons (.cons (.cons .nil)), by simp, hΦ⟩)
def sp_judge_near : Spec := fun ws Φ => ∃ (s : Web) (b : List Web) (p q m : Nat) (d : Int), ws = [.d (dGarden s b), .d (dN p), .d (dN q), .d (dN m), .d (.int d)] ∧ GardenOk s b ∧ m ≤ 1000 ∧ p < s.n ∧ q < s.n ∧ p ≠ q ∧ 0 ≤ d ∧
  (∀ x tabs ns, far s b m p q = some x → x ≤ d → Tabs b (ends b) tabs → tabs.length = m → WayTo s (ends b m) p q ns x → Φ (.d (dNear tabs ns))) ∧
  ((∀ y, far s b m p q = some y → d < y) → Φ (.d (dOver (oTabs b (d + 1) m) (hts s (rowI (stp b (d + 1) m)) p (d + 1)))))
theorem ok_judge_near (F : Fun K "judge_near" "judge_near" s_judge_near f fd) (B : Bt mg) (h_need_question : HasFn P w K mg base "need_question" 11 (spD CP sp_need_question)) (h_end_rows : HasFn P w K mg base "end_rows" 3 (spD CP sp_end_rows))
    (h_sums_from : HasFn P w K mg base "sums_from" 2 (spD CP sp_sums_from)) (h_tied_lengths : HasFn P w K mg base "tied_lengths" 1 (spD CP sp_tied_lengths)) (h_near_paper : HasFn P w K mg base "near_paper" 4 (spD CP sp_near_paper)) (h_over_paper : HasFn P w K mg base "over_paper" 4 (spD CP sp_over_paper)) :
    FnOk P w K mg base CX0 12 f fd ["garden", "p", "q", "n", "d"] (spD CP sp_judge_near) := by
  refine fnD F sc_judge_near (by decide) (fun ws Φ ⟨i, l, p, q, m, d, h, _⟩ => by rw [h]; rfl) fun cdv A outer s0 H E G ws Φ hC hr hS => ?_
  obtain ⟨s, b, p, q, m, d, rfl, ok, hm, hp, hq, hpq, hd, hN, hO⟩ := hS
  refine ss_cons (s_expr (Ev.then (w := .d .non) (ev_call0 h_need_question (hr.mono (by decide)) rfl (eva_cons (vd (i := 0) rfl rfl) (eva_cons (vd (i := 1) rfl rfl) (eva_cons (vd (i := 2) rfl rfl) (eva_cons (vd (i := 3) rfl rfl) (eva_cons (vd (i := 4) rfl rfl) eva_nil))))) ⟨s, b, p, q, m, d, rfl, ok, hp, hq, hpq, hd, rfl, (fun z => nomatch z), rfl⟩) ?_))
  refine ss_cons (s_pat pat_two (pg_tup rfl (pgs_cons (pg_name (i := 5) (sc_judge_near).nd rfl (.inl rfl)) (pgs_cons (pg_name (i := 6) (sc_judge_near).nd rfl (.inl rfl)) pgs_nil))) (Ev.then (vd (i := 0) rfl rfl) ⟨_, _, rfl, ⟨_, _, rfl, rfl⟩, ?_⟩))
  refine ss_cons (s_set (i := 7) (sc_judge_near).nd rfl (.inl rfl) (Ev.then (ev_call0 (w := .lst true ((List.range (m + 1)).map fun i => dRow (ends b i))) h_end_rows (hr.mono (by decide)) rfl (eva_cons (vd (i := 6) rfl rfl) (eva_cons (vd (i := 3) rfl rfl) eva_nil)) ⟨b, m, rfl, ok.book, hm, rfl, (fun z => nomatch z), rfl⟩) ⟨rfl, ?_⟩))
  refine ss_cons (s_set (i := 8) (sc_judge_near).nd rfl (.inl rfl) (Ev.then (w := .d (dOpt (far s b m p q))) (ev_ix (w := .lst true ((rowOf s.n (dist (tied s (ends b m)) p)).map dOpt)) ?e1 (vd (i := 2) rfl rfl) rfl ?e2) ⟨rfl, ?_⟩))
  case e1 => exact ev_sums (W := s) (r := ends b m) (p := p) h_sums_from h_tied_lengths (hr.mono (by decide)) rfl rfl (by rw [ends_length]; exact ok.start) (ends_pos b m) hp (vd (i := 5) rfl rfl) ev_int (vd (i := 5) rfl rfl) (ev_ix (vl (i := 7) rfl rfl) (vd (i := 3) rfl rfl) rfl (atI_rangeR (by omega))) (vd (i := 1) rfl rfl)
  case e2 =>
    have := atI_row (r := rowOf s.n (dist (tied s (ends b m)) p)) (c := q) (by rw [rowOf_len]; exact hq)
    rw [rowOf_at hq] at this
    exact this
  have hc : (∃ x, far s b m p q = some x ∧ x ≤ d) ∨ ∀ y, far s b m p q = some y → d < y := by
    cases e : far s b m p q with
    | none => exact .inr fun y hy => nomatch hy
    | some x =>
      by_cases h : x ≤ d
      · exact .inl ⟨x, rfl, h⟩
      · exact .inr fun y hy => by cases hy; omega
  refine ss_one (s_ret (ec_if (EvT.then (b := match far s b m p q with | none => false | some x => decide (x ≤ d)) ?tst ⟨fun hb => ?_, fun hb => ?_⟩)))
  case tst =>
    cases e : far s b m p q with
    | none => exact EvT.is (evT_and2 (q := false) (et_notN (vd (i := 8) rfl rfl)) (fun z => nomatch z)) rfl
    | some x => exact EvT.is (evT_and2 (et_notN (vd (i := 8) rfl rfl)) (fun _ => et_le (vd (i := 8) rfl rfl) (vd (i := 4) rfl rfl))) (by simp [dOpt, isNon])
  · rcases hc with ⟨x, hx, hxd⟩ | h
    · exact ec_call0 h_near_paper (hr.mono (by decide)) rfl (EvA.then (eva_cons (vd (i := 0) rfl rfl) (eva_cons (vd (i := 1) rfl rfl) (eva_cons (vd (i := 2) rfl rfl) (eva_cons (vl (i := 7) rfl rfl) eva_nil)))) ⟨rfl, s, b, p, q, m, x, rfl, ok, hm, hp, hq, hx, fun tabs ns h1 h2 h3 => ⟨rfl, (fun z => nomatch z), hN x tabs ns hx hxd h1 h2 h3⟩⟩)
    · exfalso
      cases e : far s b m p q with
      | none => rw [e] at hb; cases hb
      | some x => rw [e] at hb; have := h x e; have := of_decide_eq_true hb; omega
  · rcases hc with ⟨x, hx, hxd⟩ | h
    · exfalso
      rw [hx] at hb
      have := of_decide_eq_false hb
      omega
    · exact ec_call0 h_over_paper (hr.mono (by decide)) rfl (EvA.then (eva_cons (vd (i := 0) rfl rfl) (eva_cons (vd (i := 1) rfl rfl) (eva_cons (vd (i := 3) rfl rfl) (eva_cons (vd (i := 4) rfl rfl) eva_nil)))) ⟨rfl, s, b, p, m, d, rfl, ok, hm, hp, hd, rfl, (fun z => nomatch z), hO h⟩)
end
end Md
end P5Part
section P6Part
set_option Elab.async false
set_option linter.all false
set_option maxRecDepth 100000
set_option maxHeartbeats 2000000
/-! distances.py: the check of the papers -/
namespace Md
open PySem L2
def sp_way_size : Spec := fun ws Φ => ∃ (W : Web) (r : Row) (p q : Nat) (ns : List Nat) (x : Int), ws = [.d (dWeb W), .lst false (r.map dOpt), .d (.tup (ns.map dN)), .d (dN p), .d (dN q)] ∧ W.Ok r.length ∧ p < W.n ∧ WayTo W r p q ns x ∧ Φ (.d (.int x))
def sp_are_tables : Spec := fun ws Φ => ∃ (b : List Web) (m : Nat) (ts : List (List Dat)), ws = [.d (dBook b), .d (dN m), .d (.tup (ts.map Dat.tup))] ∧ ts.length = m ∧ m ≤ 1000 ∧ (∀ t, t ∈ ts → t.length = b.length) ∧ Φ (.d (.bl true))
def sp_is_near : Spec := fun ws Φ => ∃ (s : Web) (b : List Web) (p q : Nat) (d : Int) (tabs : List (List Item)) (ns : List Nat) (rows : Nat → Row) (x : Int), ws = [.d (dGarden s b), .d (dN p), .d (dN q), .d (.int d), .d (.tup (tabs.map dTabW)), .d (.tup (ns.map dN))] ∧ GardenOk s b ∧ p < s.n ∧
  Tabs b rows tabs ∧ tabs.length ≤ 1000 ∧ WayTo s (rows tabs.length) p q ns x ∧ Φ (.d (.bl (decide (x ≤ d))))
theorem atI_last {p : Nat} {ms : List Nat} : atI ((p :: ms).map dN) (-1) = some (dN (ms.getLastD p)) := by
  unfold atI ixN
  rw [List.length_map, List.length_cons, if_neg (by omega), if_pos (by omega)]
  have : (-1 + ((ms.length + 1 : Nat) : Int)).toNat = ms.length := by omega
  rw [this]
  show ((p :: ms).map dN)[ms.length]? = _
  rw [List.getElem?_map]
  have : (p :: ms)[ms.length]? = some (ms.getLastD p) := by
    have := List.getLast?_eq_getElem? (l := p :: ms)
    rw [List.length_cons, Nat.add_sub_cancel] at this
    rw [← this, List.getLast?_cons, List.getLastD_eq_getLast?]
  rw [this]
  rfl
theorem zip_enc {α β : Type} {f : α → Dat} {g : β → Dat} (dx : α) (dy : β) {xs : List α} {ys : List β} (h : xs.length = ys.length) : zipD (xs.map f) (ys.map g) = (List.range xs.length).map fun c => Dat.tup [f (xs.getD c dx), g (ys.getD c dy)] := by
  refine List.ext_getElem? fun i => ?_
  by_cases hi : i < xs.length
  · have h1 : xs[i]? = some xs[i] := List.getElem?_eq_getElem hi
    have hi2 : i < ys.length := by omega
    have h2 : ys[i]? = some ys[i] := List.getElem?_eq_getElem hi2
    rw [zipD_get (d := f xs[i]) (e := g ys[i]) (by rw [List.getElem?_map, h1]; rfl) (by rw [List.getElem?_map, h2]; rfl), List.getElem?_map, List.getElem?_range hi]
    simp [List.getD_eq_getElem?_getD, h1, h2]
  · rw [List.getElem?_eq_none (by rw [zipD_len, List.length_map, List.length_map]; omega), List.getElem?_eq_none (by simp; omega)]
section
variable {P : Program} {w : World} {K : PySem.W.Frag} {mg : Str → Option Value} {base : Heap} {f : Addr} {fd : FuncData}
theorem ok_way_size (F : Fun K "way_size" "way_size" s_way_size f fd) (B : Bt mg) (h_is_between : HasFn P w K mg base "is_between" 2 (spD CP sp_is_between)) : FnOk P w K mg base CX0 3 f fd ["web", "sizes", "thing", "p", "q"] (spD CP sp_way_size) := by
  refine fnD F sc_way_size (by decide) (fun ws Φ ⟨i, l, p, q, a, b, h, _⟩ => by rw [h]; rfl) fun cdv A outer s0 H E G ws Φ hC hr hS => ?_
  obtain ⟨W, r, p, q, ns, x, rfl, ok, hp, ⟨ms, wy, nd, la⟩, hΦ⟩ := hS
  have hns : ns.length ≤ 6 := WayTo.few ok hp ⟨ms, wy, nd, la⟩
  refine ss_cons (s_ifF (EvT.is (evT_or2 (q := false) (evT_not (evT_val (ev_isinst rfl B.isinstance rfl B.tuple (vd (i := 2) rfl rfl) rfl rfl))) (fun _ => EvT.is (evT_not (p := true) (evT_val (ec_all rfl rfl B.all ?_))) rfl)) rfl) (ss_nil ?_))
  · refine ec_lc (own := [("number", 7)]) ns dN (fun j r => r = some (.bl true)) pat_name rfl (sc_way_size).nd (blkOk_by (N := N_way_size) (sc := defScope s_way_size) (by decide +kernel)) (by simp) (by omega) (fun s H C cl fp => pg_name (i := 7) (sc_way_size).nd rfl (.inl rfl))
      (ei_tup (Ev.then (vd (i := 2) rfl rfl) ⟨_, rfl, rfl⟩)) (fun j hj => ⟨_, rfl, fun s H C cl fp => ets_nil ⟨fun _ s H C cl fp => ?_, fun e => nomatch e⟩⟩) fun out ho => ?_
    · have hj2 := wy.nums j hj
      refine Ev.then (w := .d (.bl true)) (ev_call0 h_is_between (hr.mono (by decide)) rfl (eva_cons (vd (i := 7) rfl rfl) (eva_cons ev_int (eva_cons (ev_sub (ev_len rfl B.len (ev_ix (vd (i := 0) rfl rfl) ev_int rfl rfl) rfl) ev_int) eva_nil))) ⟨_, _, _, rfl, rfl, (fun z => nomatch z), ?_⟩) ⟨_, rfl, rfl⟩
      rw [List.length_map]
      simp; omega
    · have := outs_map (f := fun _ : Nat => Dat.bl true) ho
      refine ⟨true, ns.map (fun _ => true), by rw [this, List.map_map]; rfl, ?_⟩
      simp
  refine ss_cons (s_par2 (i := 5) (j := 6) rfl (sc_way_size).nd rfl rfl (by decide) rfl rfl (Ev.then ev_int ⟨rfl, Ev.then (ev_lst (eva_cons (vd (i := 3) rfl rfl) eva_nil) (.cons .nil)) ⟨rfl, ?_⟩⟩))
  refine ss_cons (s_for pat_name rfl (pg_name (i := 7) (sc_way_size).nd rfl (.inl rfl)) PassesOwn.never (ei_tup (Ev.then (vd (i := 2) rfl rfl) ⟨_, rfl,
    fun i ρ' => ∃ z v m1 m2 y a b c e, ρ' = [some (.d (dWeb W)), some (.lst false (r.map dOpt)), some (.d (.tup (ns.map dN))), some (.d (dN p)), some (.d (dN q)), some (.d (.int z)), some (.lst true ((p :: m1).map dN)), a, b, c, e] ∧ m1.getLastD p = v ∧ Wy W r v (ns.drop i) m2 y ∧ z + y = x ∧ m1 ++ m2 = ms,
    ⟨0, p, [], ms, x, _, _, _, _, rfl, rfl, wy, by omega, rfl⟩, ?_, ?_⟩)))
  · rintro i d ρ' hd ⟨z, v, m1, m2, y, a, b, c, e, rfl, hv, wy', hz, hm⟩
    rw [List.getElem?_map] at hd
    obtain ⟨j, hj, rfl⟩ : ∃ j, ns[i]? = some j ∧ d = dN j := by
      cases h : ns[i]? with
      | none => rw [h] at hd; cases hd
      | some j => rw [h] at hd; exact ⟨j, rfl, (Option.some.inj hd).symm⟩
    have hil : i < ns.length := (List.getElem?_eq_some_iff.mp hj).1
    have hdr : ns.drop i = j :: ns.drop (i + 1) := by
      rw [List.drop_eq_getElem_cons hil]
      congr 1
      exact (List.getElem?_eq_some_iff.mp hj).2
    rw [hdr] at wy'
    cases wy' with
    | @cons _ _ u t l y' _ m2' ht o hl wy2 =>
      obtain ⟨t1, t2, t3, t4⟩ := ok.ties t (List.mem_of_getElem? ht)
      have gr : atI (r.map dOpt) (t.2.2 : Int) = some (dOpt (r.at t.2.2)) := atI_row t4
      rw [hl] at gr
      have hml : m1.length ≤ 1000 := by
        have h1 := nodup_len nd fun u hu => by
          rcases List.mem_cons.mp hu with rfl | hu
          · exact hp
          · exact wy.inn ok u hu
        have := ok.small
        rw [← hm] at h1
        simp at h1
        omega
      refine ⟨_, rfl, ?_⟩
      refine ss_cons (s_pat pat_three (pg_tup rfl (pgs_cons (pg_name (i := 8) (sc_way_size).nd rfl (.inl rfl)) (pgs_cons (pg_name (i := 9) (sc_way_size).nd rfl (.inl rfl)) (pgs_cons (pg_name (i := 10) (sc_way_size).nd rfl (.inl rfl)) pgs_nil)))) (Ev.then (ev_ix (ev_ix (vd (i := 0) rfl rfl) ev_int rfl rfl) (vd (i := 7) rfl rfl) rfl (atI_map (f := dTie) ht)) ⟨_, _, rfl, ⟨_, _, _, rfl, rfl⟩, ?_⟩))
      have lastv : atI ((p :: m1).map dN) (-1) = some (dN v) := by rw [← hv]; exact atI_last
      refine ss_cons (s_ifF (EvT.is (evT_or2 (et_notin2 (x := v) (ev_ix (vl (i := 6) rfl rfl) ev_negc rfl lastv) (vd (i := 8) rfl rfl) (vd (i := 9) rfl rfl)) (fun _ => et_isN (ev_ix (vl (i := 1) rfl rfl) (vd (i := 10) rfl rfl) rfl gr))) ?_) (ss_nil ?_))
      · have : v = t.1 ∨ v = t.2.1 := by rcases o with ⟨h1, _⟩ | ⟨h1, _⟩; exact .inl h1; exact .inr h1
        simp [this, dOpt, isNon]
      refine ss_cons (s_augI (i := 5) (sc_way_size).nd rfl (.inl rfl) rfl (Ev.then (ev_ix (vl (i := 1) rfl rfl) (vd (i := 10) rfl rfl) rfl gr) ⟨l, rfl, ?_⟩))
      refine ss_one (s_app (i := 6) rfl (.inl rfl) rfl (by simp; omega) (Ev.then (w := .d (dN u)) (ec_if (EvT.then (et_eqI (ev_ix (vl (i := 6) rfl rfl) ev_negc rfl lastv) (vd (i := 8) rfl rfl)) ⟨fun hb => Ev.is (vd (i := 9) rfl rfl) ?f1, fun hb => Ev.is (vd (i := 8) rfl rfl) ?f2⟩)) ⟨_, rfl, ?_⟩))
      case f1 =>
        have := of_decide_eq_true hb
        rcases o with ⟨h1, h2⟩ | ⟨h1, h2⟩
        · rw [h2]
        · exfalso; omega
      case f2 =>
        have := of_decide_eq_false hb
        rcases o with ⟨h1, h2⟩ | ⟨h1, h2⟩
        · exfalso; omega
        · rw [h2]
      refine ⟨z + l, u, m1 ++ [u], m2', y', some (.d (dN j)), some (.d (dN t.1)), some (.d (dN t.2.1)), some (.d (dN t.2.2)), ?_, by simp [List.getLastD_eq_getLast?], wy2, by omega, by rw [← hm]; simp⟩
      have : (p :: (m1 ++ [u])).map dN = (p :: m1).map dN ++ [dN u] := by simp
      rw [this]
      rfl
  · rintro ρ' ⟨z, v, m1, m2, y, a, b, c, e, rfl, hv, wy', hz, hm⟩
    rw [List.length_map, List.drop_length] at wy'
    cases wy'
    have hm1 : m1 = ms := by rw [← hm]; simp
    subst hm1
    have lastv : atI ((p :: m1).map dN) (-1) = some (dN v) := by rw [← hv]; exact atI_last
    have hvq : v = q := by rw [← hv]; exact la
    subst hvq
    have hzx : z = x := by omega
    subst hzx
    have hml : (p :: m1).length ≤ 7 := by
      have h1 := nodup_len nd fun u hu => by
        rcases List.mem_cons.mp hu with rfl | hu
        · exact hp
        · exact wy.inn ok u hu
      have := ok.small
      omega
    have el : (p :: m1).map dN = ((p :: m1).map fun v : Nat => (v : Int)).map Dat.int := by rw [List.map_map]; rfl
    refine ss_one (s_ret (ec_if (EvT.then (EvT.is (evT_and2 (et_eqI (ev_ix (vl (i := 6) rfl rfl) ev_negc rfl lastv) (vd (i := 4) rfl rfl)) (fun _ => et_eqI (i := ((p :: m1).length : Int)) (ec_lenset rfl rfl B.len rfl B.set (Ev.then (vl (i := 6) rfl rfl) ⟨_, (p :: m1).map fun v : Nat => (v : Int), by rw [← el], ?nd, ?ln, by rw [List.length_map]⟩)) (ev_len rfl B.len (vl (i := 6) rfl rfl) rfl))) (u := true) ?tt) ⟨fun _ => Ev.then (vd (i := 5) rfl rfl) hΦ, fun z => nomatch z⟩)))
    case nd =>
      show List.Pairwise _ _
      rw [List.pairwise_map]
      exact List.Pairwise.imp (fun {a b} h e => h (by omega)) nd
    case ln => rw [List.length_map]; omega
    case tt => simp
theorem ok_are_tables (F : Fun K "are_tables" "are_tables" s_are_tables f fd) (B : Bt mg) : FnOk P w K mg base CX0 1 f fd ["book", "n", "thing"] (spD CP sp_are_tables) := by
  refine fnD F sc_are_tables (by decide) (fun ws Φ ⟨i, l, p, h, _⟩ => by rw [h]; rfl) fun cdv A outer s0 H E G ws Φ hC hr hS => ?_
  obtain ⟨b, m, ts, rfl, hl, hm, ht, hΦ⟩ := hS
  refine ss_cons (s_ifF (EvT.is (evT_or2 (evT_not (evT_val (ev_isinst rfl B.isinstance rfl B.tuple (vd (i := 2) rfl rfl) rfl rfl))) (fun _ => et_neI (ev_len rfl B.len (vd (i := 2) rfl rfl) rfl) (vd (i := 1) rfl rfl))) ?_) (ss_nil ?_))
  · rw [List.length_map, hl]; simp
  refine ss_one (s_ret (ec_all rfl rfl B.all ?_))
  refine ec_lc (own := [("table", 3)]) ts Dat.tup (fun t r => r = some (.bl true)) pat_name rfl (sc_are_tables).nd (blkOk_by (N := N_are_tables) (sc := defScope s_are_tables) (by decide +kernel)) (by simp) (by omega) (fun s H C cl fp => pg_name (i := 3) (sc_are_tables).nd rfl (.inl rfl))
    (ei_tup (Ev.then (vd (i := 2) rfl rfl) ⟨_, rfl, rfl⟩)) (fun t hmt => ⟨_, rfl, fun s H C cl fp => ets_nil ⟨fun _ s H C cl fp => ?_, fun e => nomatch e⟩⟩) fun out ho => ?_
  · refine Ev.then (ev_and2 (ev_isinst rfl B.isinstance rfl B.tuple (vd (i := 3) rfl rfl) rfl rfl) (fun _ => ev_eqI (ev_len rfl B.len (vd (i := 3) rfl rfl) rfl) (ev_len rfl B.len (vd (i := 0) rfl rfl) rfl))) ⟨_, rfl, ?_⟩
    rw [ht t hmt, List.length_map]
    simp
  · have := outs_map (f := fun _ : List Dat => Dat.bl true) ho
    refine ⟨true, ts.map (fun _ => true), by rw [this, List.map_map]; rfl, ?_⟩
    have e : (ts.map (fun _ => true)).all id = true := by simp
    rw [e]
    exact hΦ
def bAt (b : List Web) (c : Nat) : Web := b.getD c ⟨0, []⟩
def tAt (t : List Item) (c : Nat) : Item := t.getD c none
theorem bAt_get {b : List Web} {c : Nat} (h : c < b.length) : b[c]? = some (bAt b c) := by unfold bAt; rw [List.getD_eq_getElem?_getD, List.getElem?_eq_getElem h]; rfl
theorem tAt_get {t : List Item} {c : Nat} (h : c < t.length) : t[c]? = some (tAt t c) := by unfold tAt; rw [List.getD_eq_getElem?_getD, List.getElem?_eq_getElem h]; rfl
theorem row_list {r : Row} {n : Nat} (h : r.length = n) : r.map dOpt = (List.range n).map fun c => dOpt (r.at c) := by
  have := row_ext (f := r.at) h (fun v _ => rfl)
  conv => lhs; rw [this]
  unfold rowOf
  rw [List.map_map]
  rfl
theorem ok_is_near (F : Fun K "is_near" "is_near" s_is_near f fd) (B : Bt mg) (h_way_size : HasFn P w K mg base "way_size" 3 (spD CP sp_way_size)) : FnOk P w K mg base CX0 4 f fd ["garden", "p", "q", "d", "tables", "way"] (spD CP sp_is_near) := by
  refine fnD F sc_is_near (by decide) (fun ws Φ ⟨i, l, p, q, m, d, ns, rows, x, h, _⟩ => by rw [h]; rfl) fun cdv A outer s0 H E G ws Φ hC hr hS => ?_
  obtain ⟨s, b, p, q, d, tabs, ns, rows, x, rfl, ok, hp, T, hlen, hw, hΦ⟩ := hS
  have h3 := ok.book.three
  have h1 := ok.book.one
  refine ss_cons (s_pat pat_two (pg_tup rfl (pgs_cons (pg_name (i := 6) (sc_is_near).nd rfl (.inl rfl)) (pgs_cons (pg_name (i := 7) (sc_is_near).nd rfl (.inl rfl)) pgs_nil))) (Ev.then (vd (i := 0) rfl rfl) ⟨_, _, rfl, ⟨_, _, rfl, rfl⟩, ?_⟩))
  refine ss_cons (s_set (i := 8) (sc_is_near).nd rfl (.inr rfl) (ec_repL (Ev.then (ev_lst (eva_cons ev_int eva_nil) (.cons .nil)) ⟨_, _, rfl, Ev.then (ev_len rfl B.len (vd (i := 7) rfl rfl) rfl) ⟨_, rfl, by omega, by rw [List.length_map]; omega, rfl, ?_⟩⟩)))
  rw [List.length_map, Int.toNat_natCast, row0_rep]
  refine ss_cons (s_for pat_name rfl (pg_name (i := 9) (sc_is_near).nd rfl (.inl rfl)) PassesOwn.never (ei_tup (Ev.then (vd (i := 4) rfl rfl) ⟨_, rfl,
    fun i ρ' => ∃ c9 c10, ρ' = [some (.d (dGarden s b)), some (.d (dN p)), some (.d (dN q)), some (.d (.int d)), some (.d (.tup (tabs.map dTabW))), some (.d (.tup (ns.map dN))), some (.d (dWeb s)), some (.d (dBook b)), some (.lst true ((rows i).map dOpt)), c9, c10, none, none, none, none],
    ⟨_, _, by rw [T.first]; rfl⟩, ?_, ?_⟩)))
  · rintro i dd ρ' hd ⟨c9, c10, rfl⟩
    rw [List.getElem?_map] at hd
    obtain ⟨tab, ht, rfl⟩ : ∃ tab, tabs[i]? = some tab ∧ dd = dTabW tab := by
      cases h : tabs[i]? with
      | none => rw [h] at hd; cases hd
      | some j => rw [h] at hd; exact ⟨j, rfl, (Option.some.inj hd).symm⟩
    have hil : i < tabs.length := (List.getElem?_eq_some_iff.mp ht).1
    have tb := T.step i tab ht
    refine ⟨_, rfl, ?_⟩
    refine ss_cons (s_lc (i := 10) (own := [("web", 12), ("item", 13)]) (List.range b.length) (fun c => Dat.tup [dWeb (bAt b c), dItem (tAt tab c)]) (fun c r => r = some (dOpt ((rows (i + 1)).at c))) pat_two rfl (sc_is_near).nd rfl rfl rfl (blkOk_by (N := N_is_near) (sc := defScope s_is_near) (by decide +kernel)) (by simp) (by simp; omega)
      (fun s H C cl fp => pg_tup rfl (pgs_cons (pg_name (i := 12) (sc_is_near).nd rfl (.inl rfl)) (pgs_cons (pg_name (i := 13) (sc_is_near).nd rfl (.inl rfl)) pgs_nil)))
      (ei_zipT rfl B.zip (Ev.then (vd (i := 7) rfl rfl) ⟨_, rfl, Ev.then (vd (i := 9) rfl rfl) ⟨_, rfl, by rw [List.length_map, List.length_map, tb.len], zip_enc _ _ tb.len.symm⟩⟩)) (fun c hc => ⟨_, ⟨_, _, rfl, rfl⟩, fun s H C cl fp => ets_nil ⟨fun _ s H C cl fp => ?_, fun e => nomatch e⟩⟩) fun out ho => ?_)
    · have hcb : c < b.length := List.mem_range.mp hc
      have gW := bAt_get hcb
      have gT := tAt_get (t := tab) (by rw [tb.len]; exact hcb)
      refine ec_if (EvT.then (et_isN (vd (i := 13) rfl rfl)) ⟨fun hb => ?_, fun hb => ?_⟩)
      · cases e : tAt tab c with
        | none =>
          rw [e] at gT
          refine Ev.then ev_non ⟨_, rfl, ?_⟩
          rw [tb.non c _ gW gT]; rfl
        | some ns => rw [e] at hb; cases hb
      · cases e : tAt tab c with
        | none => rw [e] at hb; cases hb
        | some ns' =>
          rw [e] at gT
          obtain ⟨y, hy, wy⟩ := tb.way c _ ns' gW gT
          obtain ⟨gok, g2⟩ := ok.book.each (bAt b c) (List.mem_of_getElem? gW)
          refine Ev.then (w := .d (.int y)) (ev_call0 h_way_size (hr.mono (by decide)) rfl (eva_cons (vd (i := 12) rfl rfl) (eva_cons (vl (i := 8) rfl rfl) (eva_cons (vd (i := 13) rfl rfl) (eva_cons ev_int (eva_cons ev_int eva_nil))))) ⟨bAt b c, rows i, 0, 1, ns', y, rfl, by rw [T.len i (by omega)]; exact gok, by omega, wy, rfl, (fun z => nomatch z), rfl⟩) ⟨_, rfl, ?_⟩
          rw [hy]; rfl
    · rw [outs_map (f := fun c => dOpt ((rows (i + 1)).at c)) ho, ← row_list tb.len']
      refine ss_cons (s_ifF (ET.frz 10 (EvT.is (evT_val (p := false) (ec_any rfl rfl B.any ?_)) rfl)) (ss_nil ?_))
      · refine ec_lc (own := [("item", 13), ("size", 14)]) (List.range tab.length) (fun c => Dat.tup [dItem (tAt tab c), dOpt ((rows (i + 1)).at c)]) (fun c r => r = some (.bl false)) pat_two rfl (sc_is_near).nd (blkOk_by (N := N_is_near) (sc := defScope s_is_near) (by decide +kernel)) (by simp) (by rw [List.length_range, tb.len]; omega)
          (fun s H C cl fp => pg_tup rfl (pgs_cons (pg_name (i := 13) (sc_is_near).nd rfl (.inl rfl)) (pgs_cons (pg_name (i := 14) (sc_is_near).nd rfl (.inl rfl)) pgs_nil)))
          (ei_zipTV (i := 10) rfl B.zip rfl (.inl rfl) rfl (Ev.then (vd (i := 9) rfl rfl) ⟨_, rfl, by rw [List.length_map, List.length_map, tb.len, tb.len'], zip_enc _ none (by rw [tb.len, tb.len'])⟩)) (fun c hc => ⟨_, ⟨_, _, rfl, rfl⟩, fun s H C cl fp => ets_nil ⟨fun _ s H C cl fp => ?_, fun e => nomatch e⟩⟩) fun out ho => ?_
        · have hcb : c < b.length := by have := List.mem_range.mp hc; rw [tb.len] at this; exact this
          have gW := bAt_get hcb
          have gT := tAt_get (t := tab) (by rw [tb.len]; exact hcb)
          refine Ev.then (ev_and2 (ev_notN (vd (i := 13) rfl rfl)) (fun _ => ev_isN (vd (i := 14) rfl rfl))) ⟨_, rfl, ?_⟩
          cases e : tAt tab c with
          | none => rfl
          | some ns' =>
            rw [e] at gT
            obtain ⟨y, hy, wy⟩ := tb.way c _ ns' gW gT
            rw [hy]; rfl
        · have := outs_map (f := fun _ : Nat => Dat.bl false) ho
          refine ⟨true, (List.range tab.length).map (fun _ => false), by rw [this, List.map_map]; rfl, ?_⟩
          simp
      · refine ss_one (s_move (i := 8) (j := 10) (sc_is_near).nd rfl (.inr rfl) rfl (.inl rfl) (by decide) rfl ?_)
        exact ⟨_, _, rfl⟩
  · rintro ρ' ⟨c9, c10, rfl⟩
    rw [List.length_map]
    refine ss_cons (s_set (i := 11) (sc_is_near).nd rfl (.inl rfl) (Ev.then (w := .d (.int x)) (ev_call0 h_way_size (hr.mono (by decide)) rfl (eva_cons (vd (i := 6) rfl rfl) (eva_cons (vl (i := 8) rfl rfl) (eva_cons (vd (i := 5) rfl rfl) (eva_cons (vd (i := 1) rfl rfl) (eva_cons (vd (i := 2) rfl rfl) eva_nil))))) ⟨s, rows tabs.length, p, q, ns, x, rfl, by rw [T.len _ (Nat.le_refl _)]; exact ok.start, hp, hw, rfl, (fun z => nomatch z), rfl⟩) ⟨rfl, ?_⟩))
    refine ss_one (s_ret (Ev.then (ev_and2 (ev_notN (vd (i := 11) rfl rfl)) (fun _ => ev_le (vd (i := 11) rfl rfl) (vd (i := 3) rfl rfl))) ?_))
    show Φ (.d (.bl (true && decide (x ≤ d))))
    rw [Bool.true_and]
    exact hΦ
end
end Md
end P6Part
section P7Part
set_option Elab.async false
set_option linter.all false
set_option maxRecDepth 100000
set_option maxHeartbeats 2000000
/-! distances.py: heights checked, near_holds -/
namespace Md
open PySem L2
def sp_are_heights : Spec := fun ws Φ => ∃ (W : Web) (st h : List Int), ws = [.d (dWeb W), .lst false (st.map Dat.int), .d (dInts h)] ∧ W.Ok st.length ∧ h.length = W.n ∧ Φ (.d (.bl (flatB W st h)))
def sp_is_over : Spec := fun ws Φ => ∃ (s : Web) (b : List Web) (p q : Nat) (d : Int) (tabs : List (List (List Int))) (h : List Int), ws = [.d (dGarden s b), .d (dN p), .d (dN q), .d (.int d), .d (.tup (tabs.map dTabI)), .d (dInts h)] ∧ GardenOk s b ∧ p < s.n ∧ q < s.n ∧
  tabs.length ≤ 1000 ∧ (∀ t, t ∈ tabs → TabForm b t) ∧ h.length = s.n ∧ Φ (.d (.bl (overB s b p q d tabs h)))
def sp_near_holds : Spec := fun ws Φ => ∃ (s : Web) (b : List Web) (p q m : Nat) (d : Int) (th : Dat), ws = [.d (dGarden s b), .d (dN p), .d (dN q), .d (dN m), .d (.int d), .d th] ∧ GardenOk s b ∧ p < s.n ∧ q < s.n ∧ p ≠ q ∧ m ≤ 1000 ∧ 0 ≤ d ∧
  ((∃ (tabs : List (List Item)) (ns : List Nat) (rows : Nat → Row) (x : Int), th = dNear tabs ns ∧ tabs.length = m ∧ Tabs b rows tabs ∧ WayTo s (rows m) p q ns x ∧ Φ (.d (.bl (decide (x ≤ d))))) ∨
   (∃ (tabs : List (List (List Int))) (h : List Int), th = dOver tabs h ∧ tabs.length = m ∧ (∀ t, t ∈ tabs → TabForm b t) ∧ h.length = s.n ∧ Φ (.d (.bl (overB s b p q d tabs h)))))
theorem at0_get {h : List Int} {i : Nat} (hi : i < h.length) : atI (h.map Dat.int) (i : Int) = some (.int (at0 h i)) := by
  refine atI_map (f := Dat.int) (x := at0 h i) ?_
  unfold at0
  rw [List.getD_eq_getElem?_getD, List.getElem?_eq_getElem hi]
  rfl
section
variable {P : Program} {w : World} {K : PySem.W.Frag} {mg : Str → Option Value} {base : Heap} {f : Addr} {fd : FuncData}
theorem ok_are_heights (F : Fun K "are_heights" "are_heights" s_are_heights f fd) (B : Bt mg) (h_is_integer : HasFn P w K mg base "is_integer" 1 (spD CP sp_is_integer)) : FnOk P w K mg base CX0 2 f fd ["web", "steps", "thing"] (spD CP sp_are_heights) := by
  refine fnD F sc_are_heights (by decide) (fun ws Φ ⟨i, l, p, h, _⟩ => by rw [h]; rfl) fun cdv A outer s0 H E G ws Φ hC hr hS => ?_
  obtain ⟨W, st, h, rfl, ok, hl, hΦ⟩ := hS
  have hn := ok.small
  refine ss_cons (s_ifF (EvT.is (evT_or3 (r := false) (evT_not (evT_val (ev_isinst rfl B.isinstance rfl B.tuple (vd (i := 2) rfl rfl) rfl rfl))) (fun _ => et_neI (ev_len rfl B.len (vd (i := 2) rfl rfl) rfl) (ev_ix (vd (i := 0) rfl rfl) ev_int rfl rfl)) (fun _ _ => EvT.is (evT_not (p := true) (evT_val (ec_all rfl rfl B.all ?_))) rfl)) ?_) (ss_nil ?_))
  · refine ec_lc (own := [("item", 3)]) h Dat.int (fun t r => r = some (.bl true)) pat_name rfl (sc_are_heights).nd (blkOk_by (N := N_are_heights) (sc := defScope s_are_heights) (by decide +kernel)) (by simp) (by omega) (fun s H C cl fp => pg_name (i := 3) (sc_are_heights).nd rfl (.inl rfl))
      (ei_tup (Ev.then (vd (i := 2) rfl rfl) ⟨_, rfl, rfl⟩)) (fun t hmt => ⟨_, rfl, fun s H C cl fp => ets_nil ⟨fun _ s H C cl fp => ?_, fun e => nomatch e⟩⟩) fun out ho => ?_
    · exact Ev.then (w := .d (.bl true)) (ev_call0 h_is_integer (hr.mono (by decide)) rfl (eva_cons (vd (i := 3) rfl rfl) eva_nil) ⟨_, rfl, rfl, (fun z => nomatch z), rfl⟩) ⟨_, rfl, rfl⟩
    · have := outs_map (f := fun _ : Int => Dat.bl true) ho
      refine ⟨true, h.map (fun _ => true), by rw [this, List.map_map]; rfl, ?_⟩
      simp
  · rw [List.length_map, hl]; simp
  refine ss_one (s_ret (ec_all rfl rfl B.all ?_))
  refine ec_lc (own := [("tail", 4), ("head", 5), ("kind", 6)]) W.ts dTie (fun t r => r = some (.bl (decide (absI (at0 h t.1 - at0 h t.2.1) ≤ at0 st t.2.2)))) pat_three rfl (sc_are_heights).nd (blkOk_by (N := N_are_heights) (sc := defScope s_are_heights) (by decide +kernel)) (by simp) (Nat.le_trans ok.few (by decide))
    (fun s H C cl fp => pg_tup rfl (pgs_cons (pg_name (i := 4) (sc_are_heights).nd rfl (.inl rfl)) (pgs_cons (pg_name (i := 5) (sc_are_heights).nd rfl (.inl rfl)) (pgs_cons (pg_name (i := 6) (sc_are_heights).nd rfl (.inl rfl)) pgs_nil))))
    (ei_tup (Ev.then (ev_ix (vd (i := 0) rfl rfl) ev_int rfl rfl) ⟨_, rfl, rfl⟩)) (fun t ht => ⟨_, ⟨_, _, _, rfl, rfl⟩, fun s H C cl fp => ets_nil ⟨fun _ s H C cl fp => ?_, fun e => nomatch e⟩⟩) fun out ho => ?_
  · obtain ⟨t1, t2, t3, t4⟩ := ok.ties t ht
    exact Ev.then (ev_le (ec_abs rfl B.abs (Ev.then (ev_sub (ev_ix (vd (i := 2) rfl rfl) (vd (i := 4) rfl rfl) rfl (at0_get (by omega))) (ev_ix (vd (i := 2) rfl rfl) (vd (i := 5) rfl rfl) rfl (at0_get (by omega)))) ⟨_, rfl, rfl⟩)) (ev_ix (vl (i := 1) rfl rfl) (vd (i := 6) rfl rfl) rfl (at0_get t4))) ⟨_, rfl, rfl⟩
  · have := outs_map (f := fun t : Tie => Dat.bl (decide (absI (at0 h t.1 - at0 h t.2.1) ≤ at0 st t.2.2))) ho
    refine ⟨true, W.ts.map (fun t => decide (absI (at0 h t.1 - at0 h t.2.1) ≤ at0 st t.2.2)), by rw [this, List.map_map]; rfl, ?_⟩
    have e : (W.ts.map fun t => decide (absI (at0 h t.1 - at0 h t.2.1) ≤ at0 st t.2.2)).all id = flatB W st h := by
      unfold flatB
      rw [List.all_map]
      rfl
    rw [e]
    exact hΦ
def hAt (t : List (List Int)) (c : Nat) : List Int := t.getD c []
theorem hAt_get {t : List (List Int)} {c : Nat} (h : c < t.length) : t[c]? = some (hAt t c) := by unfold hAt; rw [List.getD_eq_getElem?_getD, List.getElem?_eq_getElem h]; rfl
theorem ovOk_iff {b : List Web} {st : List Int} {tab : List (List Int)} (hl : tab.length = b.length) : ovOk b st tab = true ↔ ∀ c, c < b.length → ovIt st (bAt b c) (hAt tab c) = true := by
  unfold ovOk
  rw [List.all_eq_true]
  constructor
  · intro h c hc
    have : (b.zip tab)[c]? = some (bAt b c, hAt tab c) := by rw [List.getElem?_zip_eq_some]; exact ⟨bAt_get hc, hAt_get (by omega)⟩
    exact h _ (List.mem_of_getElem? this)
  · intro h pr hpr
    obtain ⟨c, hc⟩ := List.getElem?_of_mem hpr
    rw [List.getElem?_zip_eq_some] at hc
    obtain ⟨h1, h2⟩ := hc
    have hcb := (List.getElem?_eq_some_iff.mp h1).1
    have e1 := bAt_get hcb
    have e2 := hAt_get (t := tab) (c := c) (by omega)
    rw [h1] at e1; rw [h2] at e2
    have := h c hcb
    rw [← Option.some.inj e1, ← Option.some.inj e2] at this
    exact this
theorem ok_is_over (F : Fun K "is_over" "is_over" s_is_over f fd) (B : Bt mg) (h_are_heights : HasFn P w K mg base "are_heights" 2 (spD CP sp_are_heights)) : FnOk P w K mg base CX0 3 f fd ["garden", "p", "q", "d", "tables", "heights"] (spD CP sp_is_over) := by
  refine fnD F sc_is_over (by decide) (fun ws Φ ⟨i, l, p, q, m, d, ns, h, _⟩ => by rw [h]; rfl) fun cdv A outer s0 H E G ws Φ hC hr hS => ?_
  obtain ⟨s, b, p, q, d, tabs, h, rfl, ok, hp, hq, hlen, hform, hhl, hΦ⟩ := hS
  have h3 := ok.book.three
  have h1 := ok.book.one
  refine ss_cons (s_pat pat_two (pg_tup rfl (pgs_cons (pg_name (i := 6) (sc_is_over).nd rfl (.inl rfl)) (pgs_cons (pg_name (i := 7) (sc_is_over).nd rfl (.inl rfl)) pgs_nil))) (Ev.then (vd (i := 0) rfl rfl) ⟨_, _, rfl, ⟨_, _, rfl, rfl⟩, ?_⟩))
  refine ss_cons (s_set (i := 8) (sc_is_over).nd rfl (.inl rfl) (ec_repL (Ev.then (ev_lst (eva_cons ev_int eva_nil) (.cons .nil)) ⟨_, _, rfl, Ev.then (ev_len rfl B.len (vd (i := 7) rfl rfl) rfl) ⟨_, rfl, by omega, by rw [List.length_map]; omega, rfl, ?_⟩⟩)))
  have e1 : List.replicate b.length (Dat.int 1) = (b.map fun _ => (1 : Int)).map Dat.int := by
    rw [row0_rep]; unfold ends; rw [List.map_map, List.map_map]; rfl
  rw [List.length_map, Int.toNat_natCast, e1]
  refine ss_cons (s_for pat_name rfl (pg_name (i := 9) (sc_is_over).nd rfl (.inl rfl)) PassesOwn.never (ei_tup (Ev.then (vd (i := 4) rfl rfl) ⟨_, rfl,
    fun i ρ' => ∃ st c9 c10 c11, ρ' = [some (.d (dGarden s b)), some (.d (dN p)), some (.d (dN q)), some (.d (.int d)), some (.d (.tup (tabs.map dTabI))), some (.d (dInts h)), some (.d (dWeb s)), some (.d (dBook b)), some (.lst true (st.map Dat.int)), c9, c10, c11] ∧ st.length = b.length ∧ ovRun b (b.map fun _ => 1) tabs = ovRun b st (tabs.drop i),
    ⟨_, _, _, _, rfl, by simp, rfl⟩, ?_, ?_⟩)))
  · rintro i dd ρ' hd ⟨st, c9, c10, c11, rfl, hst, hrun⟩
    rw [List.getElem?_map] at hd
    obtain ⟨tab, ht, rfl⟩ : ∃ tab, tabs[i]? = some tab ∧ dd = dTabI tab := by
      cases h : tabs[i]? with
      | none => rw [h] at hd; cases hd
      | some j => rw [h] at hd; exact ⟨j, rfl, (Option.some.inj hd).symm⟩
    have hil : i < tabs.length := (List.getElem?_eq_some_iff.mp ht).1
    obtain ⟨tl, tf⟩ := hform tab (List.mem_of_getElem? ht)
    have hdr : tabs.drop i = tab :: tabs.drop (i + 1) := by
      rw [List.drop_eq_getElem_cons hil]
      congr 1
      exact (List.getElem?_eq_some_iff.mp ht).2
    rw [hdr] at hrun
    have hrun2 : ovRun b (b.map fun _ => 1) tabs = if ovOk b st tab then ovRun b (ovSt tab) (tabs.drop (i + 1)) else none := hrun
    have hlen2 : ∀ c, c < b.length → (hAt tab c).length = (bAt b c).n := fun c hc => tf c _ _ (bAt_get hc) (hAt_get (by omega))
    refine ⟨_, rfl, ?_⟩
    refine ss_cons (s_for pat_two rfl (pg_tup rfl (pgs_cons (pg_name (i := 10) (sc_is_over).nd rfl (.inl rfl)) (pgs_cons (pg_name (i := 11) (sc_is_over).nd rfl (.inl rfl)) pgs_nil))) PassesOwn.never
      (ei_zipT rfl B.zip (Ev.then (vd (i := 7) rfl rfl) ⟨_, rfl, Ev.then (vd (i := 9) rfl rfl) ⟨_, rfl, by rw [List.length_map, List.length_map, tl],
        fun j ρ' => ∃ c10 c11, ρ' = [some (.d (dGarden s b)), some (.d (dN p)), some (.d (dN q)), some (.d (.int d)), some (.d (.tup (tabs.map dTabI))), some (.d (dInts h)), some (.d (dWeb s)), some (.d (dBook b)), some (.lst true (st.map Dat.int)), some (.d (dTabI tab)), c10, c11] ∧ ∀ c, c < j → ovIt st (bAt b c) (hAt tab c) = true,
        ⟨_, _, rfl, fun c hc => absurd hc (Nat.not_lt_zero c)⟩, ?_, ?_⟩⟩)))
    · rintro c d2 ρ' hd2 ⟨c10, c11, rfl, hall⟩
      rw [zip_enc ⟨0, []⟩ [] tl.symm, List.getElem?_map] at hd2
      obtain ⟨hc, rfl⟩ : c < b.length ∧ d2 = Dat.tup [dWeb (bAt b c), dInts (hAt tab c)] := by
        by_cases hc : c < b.length
        · rw [List.getElem?_range hc] at hd2
          exact ⟨hc, (Option.some.inj hd2).symm⟩
        · rw [List.getElem?_eq_none (by simp; omega)] at hd2; cases hd2
      obtain ⟨gok, g2⟩ := ok.book.each (bAt b c) (List.mem_of_getElem? (bAt_get hc))
      have hl2 := hlen2 c hc
      refine ⟨_, ⟨_, _, rfl, rfl⟩, ?_⟩
      refine ss_one (s_if (EvT.then (b := !ovIt st (bAt b c) (hAt tab c)) (EvT.is (evT_or3 (evT_not (evT_val (ev_call0 (w := .d (.bl (flatB (bAt b c) st (hAt tab c)))) h_are_heights (hr.mono (by decide)) rfl (eva_cons (vd (i := 10) rfl rfl) (eva_cons (vl (i := 8) rfl rfl) (eva_cons (vd (i := 11) rfl rfl) eva_nil))) ⟨bAt b c, st, hAt tab c, rfl, by rw [hst]; exact gok, hl2, rfl, (fun z => nomatch z), rfl⟩)))
        (fun _ => et_neI (ev_ix (vd (i := 11) rfl rfl) ev_int rfl (at0_get (i := 0) (by omega))) ev_int) (fun _ _ => et_lt (ev_ix (vd (i := 11) rfl rfl) ev_int rfl (at0_get (i := 1) (by omega))) ev_int)) ?tt) ⟨fun hb => ?_, fun hb => ?_⟩))
      case tt =>
        unfold ovIt
        cases flatB (bAt b c) st (hAt tab c) <;> simp
        have hd : decide (at0 (hAt tab c) 1 < 0) = !decide (0 ≤ at0 (hAt tab c) 1) := by
          by_cases h1 : 0 ≤ at0 (hAt tab c) 1
          · rw [decide_eq_true h1, decide_eq_false (by omega)]; rfl
          · rw [decide_eq_false h1, decide_eq_true (by omega)]; rfl
        by_cases h0 : at0 (hAt tab c) 0 = 0
        · simp [h0, hd]
        · simp [h0]
      · refine ss_one (s_ret (Ev.then ev_bl ?_))
        have hno : ovOk b st tab = false := by
          cases e : ovOk b st tab with
          | false => rfl
          | true =>
            have := (ovOk_iff tl).mp e c hc
            rw [this] at hb; cases hb
        have : overB s b p q d tabs h = false := by
          unfold overB
          rw [hrun2, hno]
          rfl
        rw [this] at hΦ
        exact hΦ
      · refine ss_nil ⟨_, _, rfl, fun c' hc' => ?_⟩
        by_cases e : c' = c
        · subst e
          cases e2 : ovIt st (bAt b c') (hAt tab c') with
          | true => rfl
          | false => rw [e2] at hb; cases hb
        · exact hall c' (by omega)
    · rintro ρ' ⟨c10, c11, rfl, hall⟩
      have hallow : ovOk b st tab = true := (ovOk_iff tl).mpr fun c hc => hall c (by rw [zipD_len, List.length_map, List.length_map]; omega)
      rw [hallow, if_pos rfl] at hrun2
      refine ss_one (s_lc (i := 8) (own := [("item", 11)]) tab dInts (fun h r => r = some (.int (at0 h 1))) pat_name rfl (sc_is_over).nd rfl rfl rfl (blkOk_by (N := N_is_over) (sc := defScope s_is_over) (by decide +kernel)) (by simp) (by omega) (fun s H C cl fp => pg_name (i := 11) (sc_is_over).nd rfl (.inl rfl))
        (ei_tup (Ev.then (vd (i := 9) rfl rfl) ⟨_, rfl, rfl⟩)) (fun hh hm => ⟨_, rfl, fun s H C cl fp => ets_nil ⟨fun _ s H C cl fp => ?_, fun e => nomatch e⟩⟩) fun out ho => ?_)
      · obtain ⟨c, hc⟩ := List.getElem?_of_mem hm
        have hcb : c < b.length := by have := (List.getElem?_eq_some_iff.mp hc).1; omega
        have e := hAt_get (t := tab) (c := c) (by omega)
        rw [hc] at e
        have hl2 := hlen2 c hcb
        rw [← Option.some.inj e] at hl2
        have := (ok.book.each (bAt b c) (List.mem_of_getElem? (bAt_get hcb))).2
        exact Ev.then (ev_ix (vd (i := 11) rfl rfl) ev_int rfl (at0_get (i := 1) (by omega))) ⟨_, rfl, rfl⟩
      · rw [outs_map (f := fun h => Dat.int (at0 h 1)) ho]
        exact ⟨ovSt tab, _, _, _, by unfold ovSt; rw [List.map_map]; rfl, by unfold ovSt; rw [List.length_map]; exact tl, hrun2⟩
  · rintro ρ' ⟨st, c9, c10, c11, rfl, hst, hrun⟩
    rw [List.length_map, List.drop_length] at hrun
    refine ss_one (s_ret (Ev.then (ev_and3 (ev_call0 (w := .d (.bl (flatB s st h))) h_are_heights (hr.mono (by decide)) rfl (eva_cons (vd (i := 6) rfl rfl) (eva_cons (vl (i := 8) rfl rfl) (eva_cons (vd (i := 5) rfl rfl) eva_nil))) ⟨s, st, h, rfl, by rw [hst]; exact ok.start, hhl, rfl, (fun z => nomatch z), rfl⟩)
      (fun _ => ev_eqI (ev_ix (vd (i := 5) rfl rfl) (vd (i := 1) rfl rfl) rfl (at0_get (by omega))) ev_int) (fun _ _ => ev_gt (ev_ix (vd (i := 5) rfl rfl) (vd (i := 2) rfl rfl) rfl (at0_get (by omega))) (vd (i := 3) rfl rfl))) ?_))
    have : overB s b p q d tabs h = (flatB s st h && (decide (at0 h p = 0) && decide (at0 h q > d))) := by
      unfold overB
      rw [hrun]
      rfl
    rw [← this]
    exact hΦ
theorem ok_near_holds (F : Fun K "near_holds" "near_holds" s_near_holds f fd) (B : Bt mg) (h_need_question : HasFn P w K mg base "need_question" 11 (spD CP sp_need_question)) (h_are_tables : HasFn P w K mg base "are_tables" 1 (spD CP sp_are_tables)) (h_is_near : HasFn P w K mg base "is_near" 4 (spD CP sp_is_near)) (h_is_over : HasFn P w K mg base "is_over" 3 (spD CP sp_is_over)) :
    FnOk P w K mg base CX0 12 f fd ["garden", "p", "q", "n", "d", "thing"] (spD CP sp_near_holds) := by
  refine fnD F sc_near_holds (by decide) (fun ws Φ ⟨i, l, p, q, m, d, th, h, _⟩ => by rw [h]; rfl) fun cdv A outer s0 H E G ws Φ hC hr hS => ?_
  obtain ⟨s, b, p, q, m, d, th, rfl, ok, hp, hq, hpq, hm, hd, hS⟩ := hS
  refine ss_cons (s_expr (Ev.then (w := .d .non) (ev_call0 h_need_question (hr.mono (by decide)) rfl (eva_cons (vd (i := 0) rfl rfl) (eva_cons (vd (i := 1) rfl rfl) (eva_cons (vd (i := 2) rfl rfl) (eva_cons (vd (i := 3) rfl rfl) (eva_cons (vd (i := 4) rfl rfl) eva_nil))))) ⟨s, b, p, q, m, d, rfl, ok, hp, hq, hpq, hd, rfl, (fun z => nomatch z), rfl⟩) ?_))
  rcases hS with ⟨tabs, ns, rows, x, rfl, hl, T, hw, hΦ⟩ | ⟨tabs, h, rfl, hl, hform, hhl, hΦ⟩
  · refine ss_cons (s_ifF (EvT.is (evT_or3 (evT_not (evT_val (ev_isinst rfl B.isinstance rfl B.tuple (vd (i := 5) rfl rfl) rfl rfl))) (fun _ => (et_neI (ev_len rfl B.len (vd (i := 5) rfl rfl) rfl) ev_int)) (fun _ _ => (evT_not (evT_val (ev_isinst rfl B.isinstance rfl B.str (ev_ix (vd (i := 5) rfl rfl) ev_int rfl rfl) rfl rfl))))) rfl) (ss_nil ?_))
    refine ss_cons (s_ifF (EvT.is (evT_not (evT_val (ev_call0 (w := .d (.bl true)) h_are_tables (hr.mono (by decide)) rfl (eva_cons (ev_ix (vd (i := 0) rfl rfl) ev_int rfl rfl) (eva_cons (vd (i := 3) rfl rfl) (eva_cons (ev_ix (vd (i := 5) rfl rfl) ev_int rfl rfl) eva_nil))) ⟨b, m, tabs.map (fun t => t.map dItem), ?_, by rw [List.length_map]; exact hl, hm, fun t ht => ?_, rfl, (fun z => nomatch z), rfl⟩))) rfl) (ss_nil ?_))
    · rw [List.map_map]; rfl
    · obtain ⟨tab, ht2, rfl⟩ := List.mem_map.mp ht
      obtain ⟨i, hi⟩ := List.getElem?_of_mem ht2
      rw [List.length_map]
      exact (T.step i tab hi).len
    refine ss_cons (s_ifT (EvT.is (et_eqS (ev_ix (vd (i := 5) rfl rfl) ev_int rfl rfl) ev_str) (by decide)) (ss_one (s_ret ?_)))
    exact Ev.then (ev_call0 (w := .d (.bl (decide (x ≤ d)))) h_is_near (hr.mono (by decide)) rfl (eva_cons (vd (i := 0) rfl rfl) (eva_cons (vd (i := 1) rfl rfl) (eva_cons (vd (i := 2) rfl rfl) (eva_cons (vd (i := 4) rfl rfl) (eva_cons (ev_ix (vd (i := 5) rfl rfl) ev_int rfl rfl) (eva_cons (ev_ix (vd (i := 5) rfl rfl) ev_int rfl rfl) eva_nil)))))) ⟨s, b, p, q, d, tabs, ns, rows, x, rfl, ok, hp, T, by omega, by rw [hl]; exact hw, rfl, (fun z => nomatch z), rfl⟩) hΦ
  · refine ss_cons (s_ifF (EvT.is (evT_or3 (evT_not (evT_val (ev_isinst rfl B.isinstance rfl B.tuple (vd (i := 5) rfl rfl) rfl rfl))) (fun _ => (et_neI (ev_len rfl B.len (vd (i := 5) rfl rfl) rfl) ev_int)) (fun _ _ => (evT_not (evT_val (ev_isinst rfl B.isinstance rfl B.str (ev_ix (vd (i := 5) rfl rfl) ev_int rfl rfl) rfl rfl))))) rfl) (ss_nil ?_))
    refine ss_cons (s_ifF (EvT.is (evT_not (evT_val (ev_call0 (w := .d (.bl true)) h_are_tables (hr.mono (by decide)) rfl (eva_cons (ev_ix (vd (i := 0) rfl rfl) ev_int rfl rfl) (eva_cons (vd (i := 3) rfl rfl) (eva_cons (ev_ix (vd (i := 5) rfl rfl) ev_int rfl rfl) eva_nil))) ⟨b, m, tabs.map (fun t => t.map dInts), ?_, by rw [List.length_map]; exact hl, hm, fun t ht => ?_, rfl, (fun z => nomatch z), rfl⟩))) rfl) (ss_nil ?_))
    · rw [List.map_map]; rfl
    · obtain ⟨tab, ht2, rfl⟩ := List.mem_map.mp ht
      rw [List.length_map]
      exact (hform tab ht2).1
    refine ss_cons (s_ifF (EvT.is (et_eqS (ev_ix (vd (i := 5) rfl rfl) ev_int rfl rfl) ev_str) (by decide)) (ss_nil (ss_one (s_ret ?_))))
    refine Ev.then (Ev.is (ev_and2 (ev_eqS (ev_ix (vd (i := 5) rfl rfl) ev_int rfl rfl) ev_str) (fun _ => ev_call0 (w := .d (.bl (overB s b p q d tabs h))) h_is_over (hr.mono (by decide)) rfl (eva_cons (vd (i := 0) rfl rfl) (eva_cons (vd (i := 1) rfl rfl) (eva_cons (vd (i := 2) rfl rfl) (eva_cons (vd (i := 4) rfl rfl) (eva_cons (ev_ix (vd (i := 5) rfl rfl) ev_int rfl rfl) (eva_cons (ev_ix (vd (i := 5) rfl rfl) ev_int rfl rfl) eva_nil)))))) ⟨s, b, p, q, d, tabs, h, rfl, ok, hp, hq, by omega, hform, hhl, rfl, (fun z => nomatch z), rfl⟩)) (u := .d (.bl (overB s b p q d tabs h))) ?_) hΦ
    have : decide (("over" : Str) = ("over" : Str)) = true := by simp
    rw [this, Bool.true_and]
end
end Md
end P7Part
section MdOPart
set_option Elab.async false
set_option linter.all false
set_option maxRecDepth 100000
set_option maxHeartbeats 4000000
/-! The deck: a dict with a list in it, hidden behind its frame. -/
namespace Md
open PySem L2
abbrev kCells : Key := .inr "cells"
abbrev kMixed : Key := .inr "mixed"
abbrev kTurn : Key := .inr "turn"
theorem ne_cm : ¬ (kCells = kMixed) := by decide +kernel
theorem ne_ct : ¬ (kCells = kTurn) := by decide +kernel
theorem ne_mt : ¬ (kMixed = kTurn) := by decide +kernel
def dkv (c : Addr) (m t : Int) : List (Key × V) := [(kCells, .ref c), (kMixed, .int m), (kTurn, .int t)]
theorem dkv_cells (c : Addr) (m t : Int) : valV (dkv c m t) kCells = some (.ref c) := valV_pos rfl
theorem dkv_mixed (c : Addr) (m t : Int) : valV (dkv c m t) kMixed = some (.int m) := (valV_neg ne_cm).trans (valV_pos rfl)
theorem dkv_turn (c : Addr) (m t : Int) : valV (dkv c m t) kTurn = some (.int t) := (valV_neg ne_ct).trans ((valV_neg ne_mt).trans (valV_pos rfl))
theorem dkv_put (c : Addr) (m t u : Int) : putK (dkv c m t) kTurn (.int u) = dkv c m u := by
  unfold putK
  rw [valV_any, dkv_turn]
  rw [if_pos (by rfl)]
  unfold dkv
  rw [List.map_cons, List.map_cons, List.map_cons, List.map_nil, if_neg ne_ct, if_neg ne_mt, if_pos rfl]
/-- a deck at d, its cells at c -/
def deckFr (d c : Addr) (P : Nat → Prop) : Fr where
  d := d
  M := fun a => a = d ∨ a = c
  I := fun H => d ≠ c ∧ ∃ m t ns, H d = some (.dK (dkv c m t)) ∧ H c = some (.lst (List.map V.int ns)) ∧ P ns.length
  tr := fun H a h m => by
    obtain ⟨_, m', t, ns, h1, h2, _⟩ := h
    rcases m with rfl | rfl
    · exact ⟨_, h1⟩
    · exact ⟨_, h2⟩
  mono := fun H H' k h => by
    obtain ⟨n, m', t, ns, h1, h2, h3⟩ := h
    exact ⟨n, m', t, ns, k d _ (.inl rfl) h1, k c _ (.inr rfl) h2, h3⟩
section
variable {d c : Addr} {P Q : Nat → Prop} {X : Cx} {ρ : Env1} {H0 H H1 H2 : Hp} {σ σ' : L2.St} {a b e : Expr} {es : List Expr} {pos p : Pos} {v : V} {w : W} {D : DE} {D' : Ends} {st : Stmt} {ss : List Stmt}
theorem Ext.toP (e : Ext (deckFr d c P) H H1) : Ext (deckFr d c Q) H H1 := ⟨e.keep, e.tup⟩
theorem RepW.toP (r : RepW (deckFr d c P) H0 H v w) : RepW (deckFr d c Q) H0 H v w := by
  cases w <;> exact r
theorem Kn.toP (k : Kn (deckFr d c P) H0 H σ ρ) (i : (deckFr d c Q).I H) : Kn (deckFr d c Q) H0 H σ ρ :=
  ⟨k.ext.toP, i, k.len, fun j w h => let ⟨v, h1, h2⟩ := k.get j w h; ⟨v, h1, h2.toP⟩, k.sep⟩
theorem deck_weak (h : ∀ n, P n → Q n) (i : (deckFr d c P).I H) : (deckFr d c Q).I H := by
  obtain ⟨n, m, t, ns, h1, h2, h3⟩ := i
  exact ⟨n, m, t, ns, h1, h2, h _ h3⟩
theorem Keep.toP {ρ' : Env1} (k : Keep (deckFr d c P) H σ ρ H1 σ' ρ') : Keep (deckFr d c Q) H σ ρ H1 σ' ρ' := ⟨k.tup, k.free⟩
theorem Lift.toP (h : ∀ n, Q n → P n) (l : Lift (deckFr d c P) H0 H σ ρ D D') : Lift (deckFr d c Q) H0 H σ ρ D D' :=
  ⟨fun a b c' kn kp x => l.nx a b c' (kn.toP (deck_weak h kn.inv)) kp.toP x, fun a b c' kn kp x => l.bk a b c' (kn.toP (deck_weak h kn.inv)) kp.toP x, fun a b c' kn kp x => l.ct a b c' (kn.toP (deck_weak h kn.inv)) kp.toP x, fun v H' w e i r x => l.rt v H' w e.toP (deck_weak h i) r.toP x⟩
/-- statements that begin with more known of the deck -/
def SH (d c : Addr) (Q P : Nat → Prop) (X : Cx) (ss : List Stmt) (ρ : Env1) (D : DE) : Prop := ∀ H0 H σ D', Kn (deckFr d c Q) H0 H σ ρ → Lift (deckFr d c P) H0 H σ ρ D D' → cS X ss D' σ H
theorem SH.of (h : ∀ n, Q n → P n) (s : SS (deckFr d c P) X ss ρ D) : SH d c Q P X ss ρ D := fun H0 H σ D' k l => s H0 H σ D' (k.toP (deck_weak h k.inv)) l
theorem deck_at {i : Nat} (k : Kn (deckFr d c P) H0 H σ ρ) (hw : ρ[i]? = some (some .deck)) : σ[i]? = some (some (.ref d)) := by
  obtain ⟨v, h1, h2⟩ := k.get i _ hw
  have : v = .ref d := h2
  rw [h1, this]
variable {i : Nat} {x : Str} {p1 : Pos} {jj : Nat} {pp : Pos}
theorem ec_dturn {Φ : W → Prop} (hu : X.A.units + 1 < cLine) (hi : X.N[i]? = some x) (hw : ρ[i]? = some (some .deck)) (h : ∀ t, Φ (.d (.int t))) (hv : Vis X.env.scope x := by first | exact .inl rfl | exact .inr (.inl rfl) | exact .inr (.inr rfl)) (hd : (x == ("__debug__" : Str)) = false := by decide) (hcd : (x == ("__classdict__" : Str)) = false := by decide)
    (hs : NoSl (.Constant (.str "turn") jj pp) := by exact fun _ _ => rfl) : EC (deckFr d c P) X (.Subscript (.Name x p1) (.Constant (.str "turn") jj pp) pos) ρ Φ := fun H0 H σ k Q q => by
  obtain ⟨n, m, t, ns, h1, h2, h3⟩ := k.inv
  exact PE.c (pe_dget hu (pe_var hi hv hd hcd) pe_str hs) ⟨_, deck_at k hw, d, _, rfl, dkv_turn c m t ▸ DGet.k (k := kTurn) h1, q _ H _ (.refl _ H) k.inv (repD (.int t)) (h t)⟩
theorem ec_dmixed {Φ : W → Prop} (hu : X.A.units + 1 < cLine) (hi : X.N[i]? = some x) (hw : ρ[i]? = some (some .deck)) (h : ∀ t, Φ (.d (.int t))) (hv : Vis X.env.scope x := by first | exact .inl rfl | exact .inr (.inl rfl) | exact .inr (.inr rfl)) (hd : (x == ("__debug__" : Str)) = false := by decide) (hcd : (x == ("__classdict__" : Str)) = false := by decide)
    (hs : NoSl (.Constant (.str "mixed") jj pp) := by exact fun _ _ => rfl) : EC (deckFr d c P) X (.Subscript (.Name x p1) (.Constant (.str "mixed") jj pp) pos) ρ Φ := fun H0 H σ k Q q => by
  obtain ⟨n, m, t, ns, h1, h2, h3⟩ := k.inv
  exact PE.c (pe_dget hu (pe_var hi hv hd hcd) pe_str hs) ⟨_, deck_at k hw, d, _, rfl, dkv_mixed c m t ▸ DGet.k (k := kMixed) h1, q _ H _ (.refl _ H) k.inv (repD (.int m)) (h m)⟩
/-- the frame behind a write at the deck -/
theorem deck_write {q : Addr} {o o' : HO} (k : Kn (deckFr d c Q) H0 H σ ρ) (hm : q = d ∨ q = c) (ho : H q = some o) (nt : ∀ xs, o ≠ .tup xs) (i : (deckFr d c P).I (upd H q o')) : Kn (deckFr d c P) H0 (upd H q o') σ ρ ∧ Keep (deckFr d c P) H σ ρ (upd H q o') σ ρ := by
  have tk : TupK H (upd H q o') := tupK_upd fun xs z => nt xs (by rw [ho] at z; exact Option.some.inj z)
  have kp : ∀ a u, ¬ (a = d ∨ a = c) → H a = some u → upd H q o' a = some u := fun a u n e => by rw [upd_ne (fun z => n (by rw [z]; exact hm))]; exact e
  have e1 : Ext (deckFr d c Q) H (upd H q o') := ⟨kp, tk⟩
  exact ⟨⟨(k.ext.trans e1).toP, i, k.len, fun j w h => let ⟨v, h1, h2⟩ := k.get j w h; ⟨v, h1, (h2.step e1).toP⟩, k.sep⟩, tk, fun a u n e f => ⟨kp a u n e, f⟩⟩
theorem s_dturn (hu : X.A.units + 1 < cLine) (hi : X.N[i]? = some x) (hw : ρ[i]? = some (some .deck)) (h : EC (deckFr d c P) X e ρ fun w => ∃ t, w = .d (.int t) ∧ D.nx ρ) (hv : Vis X.env.scope x := by first | exact .inl rfl | exact .inr (.inl rfl) | exact .inr (.inr rfl)) (hd : (x == ("__debug__" : Str)) = false := by decide) (hcd : (x == ("__classdict__" : Str)) = false := by decide)
    (hs : swapsWith e (some (.Subscript (.Name x p1) (.Constant (.str "turn") jj pp) p)) pos.line X.env = pure false := by rfl) : S1 (deckFr d c P) X (.Assign [.Subscript (.Name x p1) (.Constant (.str "turn") jj pp) p] e pos) ρ D := fun H0 H σ D' k l =>
  PS.c (ps_dput hu (pe_var hi hv hd hcd) pe_str (cE.pe X e) hs) (h.run k fun v H1 w e1 k1 r1 ⟨t', ew, dn⟩ => by
    subst ew; cases r1
    obtain ⟨n, m, t, ns, h1, h2, h3⟩ := k1.inv
    have hi2 : (deckFr d c P).I (upd H1 d (.dK (dkv c m t'))) := ⟨n, m, t', ns, upd_same, by rw [upd_ne (Ne.symm n)]; exact h2, h3⟩
    obtain ⟨kn, kp⟩ := deck_write (o' := .dK (dkv c m t')) k1 (.inl rfl) h1 (fun xs z => nomatch z) hi2
    exact ⟨_, deck_at k1 hw, d, _, rfl, by have := DPut.k (k := kTurn) (v := .int t') h1 (by show 3 < sizeLine; decide); rw [dkv_put] at this; exact this, l.nx _ _ _ kn ((Keep.ext e1).trans kp) dn⟩)
theorem eqv_nil (ns : List Int) : PyData.eqv (.list (toPys (ns.map Dat.int))) (.list []) = decide (ns.length = 0) := by
  cases ns <;> simp [toPys, PyData.eqv, PyData.eqvAll]
/-- if d['cells'] != []: .. -/
theorem s_ifCells {sa sb : List Stmt} {px pc : Pos} (hu : X.A.units + 64 < cLine) (hi : X.N[i]? = some x) (hw : ρ[i]? = some (some .deck)) (ha : SH d c (fun n => P n ∧ 0 < n) P X sa ρ D) (hb : SS (deckFr d c P) X sb ρ D) (hv : Vis X.env.scope x := by first | exact .inl rfl | exact .inr (.inl rfl) | exact .inr (.inr rfl)) (hd : (x == ("__debug__" : Str)) = false := by decide) (hcd : (x == ("__classdict__" : Str)) = false := by decide)
    (hs : NoSl (.Constant (.str "cells") jj pp) := by exact fun _ _ => rfl) : S1 (deckFr d c P) X (.If (.Compare (.Subscript (.Name x p1) (.Constant (.str "cells") jj pp) px) [.NotEq] [.List [] pc] p) sa sb pos) ρ D := fun H0 H σ D' k l => by
  obtain ⟨n, m, t, ns, h1, h2, h3⟩ := k.inv
  have hu1 : X.A.units + 1 < cLine := by omega
  refine PS.c (ps_if (pt_cmpR (op_neD hu) (pe_dget hu1 (pe_var hi hv hd hcd) pe_str hs) (pe_lst pa_nil) (nomark _)) (cS.ps X sa) (cS.ps X sb)) ?_
  refine ⟨_, deck_at k hw, d, _, rfl, dkv_cells c m t ▸ DGet.k (k := kCells) h1, by show 0 ≤ sizeLine; decide, fun q hq => ?_⟩
  have e1 : Ext (deckFr d c P) H (upd H q (.lst [])) := Ext.new hq
  have k1 := k.step e1 (inv_new k.inv hq)
  have hc : upd H q (.lst []) c = some (.lst (List.map V.int ns)) := by rw [upd_ne (ne_of_none h2 hq)]; exact h2
  refine ⟨_, _, .lst (SqL.of hc) (reps_ints _ ns).dp, .lst (SqL.of upd_same) .nil, shaped_ints ns, by decide, ?_⟩
  refine ⟨_, rfl, ?_⟩
  rw [eqv_nil]
  by_cases h0 : ns.length = 0
  · rw [decide_eq_true h0]
    exact hb H0 _ σ D' k1 (l.from (.ext e1))
  · rw [decide_eq_false h0]
    refine ha H0 _ σ D' (k1.toP ⟨n, m, t, ns, ?_, hc, h3, by omega⟩) (l.from (.ext e1))
    rw [upd_ne (ne_of_none h1 hq)]; exact h1
/-- y = d['cells'].pop() -/
theorem sh_pop {j : Nat} {y : Str} {px cpos apos p' : Pos} (hN : X.N.Nodup) (hu : X.A.units + 1 < cLine) (hi : X.N[i]? = some x) (hw : ρ[i]? = some (some .deck)) (hj : X.N[j]? = some y) (hy : Loc X.env.scope y) (hQ : ∀ n, Q n → 0 < n) (h : ∀ u, SH d c (fun n => Q (n + 1)) P X ss (ρ.set j (some (.d (.int u)))) D)
    (hv : Vis X.env.scope x := by first | exact .inl rfl | exact .inr (.inl rfl) | exact .inr (.inr rfl)) (hd : (x == ("__debug__" : Str)) = false := by decide) (hcd : (x == ("__classdict__" : Str)) = false := by decide)
    (hsl : NoSl (.Constant (.str "cells") jj pp) := by exact fun _ _ => rfl)
    (hbase : attributeBase (.Subscript (.Name x p1) (.Constant (.str "cells") jj pp) px) "pop" X.env (eval (.Subscript (.Name x p1) (.Constant (.str "cells") jj pp) px) X.env) = eval (.Subscript (.Name x p1) (.Constant (.str "cells") jj pp) px) X.env := by rfl)
    (hline : (apos.endLine == cpos.line) = true := by rfl)
    (hs : swapsWith (.Call (.Attribute (.Subscript (.Name x p1) (.Constant (.str "cells") jj pp) px) "pop" apos) [] [] cpos) (some (.Name y p')) pos.line X.env = pure false := by rfl)
    (hf : X.fn y = true ∨ X.env.scope.names.lookup y = some .local := by first | exact .inl rfl | exact .inr rfl) :
    SH d c Q P X (.Assign [.Name y p'] (.Call (.Attribute (.Subscript (.Name x p1) (.Constant (.str "cells") jj pp) px) "pop" apos) [] [] cpos) pos :: ss) ρ D := fun H0 H σ D' k l => by
  obtain ⟨n, m, t, ns, h1, h2, h3⟩ := k.inv
  refine PSs.c (pss_cons (ps_set hN hj hy (pe_bm0 PySem.F.plainAttrs_list PySem.F.slot_list_pop PySem.F.type_list_pop mt_pop (pe_dget hu (pe_var hi hv hd hcd) pe_str hsl) hbase hline) hs hf) (cS.ps X ss)) ?_
  have hl := hQ _ h3
  obtain ⟨u, hu2⟩ : ∃ u, ns[ns.length - 1]? = some u := ⟨_, List.getElem?_eq_getElem (by omega)⟩
  refine ⟨.ref d, deck_at k hw, d, .ref c, rfl, dkv_cells c m t ▸ DGet.k (k := kCells) h1, .inl ⟨rfl, _, SqL.of h2⟩, c, ns.map V.int, .int u, rfl, rfl, h2, by rw [List.length_map, List.getElem?_map, hu2]; rfl, ?_⟩
  have ed : (ns.map V.int).dropLast = ns.dropLast.map V.int := by rw [List.map_dropLast]
  rw [ed]
  have hi2 : (deckFr d c fun n => Q (n + 1)).I (upd H c (.lst (ns.dropLast.map V.int))) := ⟨n, m, t, ns.dropLast, by rw [upd_ne n]; exact h1, upd_same, by rw [List.length_dropLast]; show Q (ns.length - 1 + 1); rw [Nat.sub_add_cancel hl]; exact h3⟩
  obtain ⟨kn, kp⟩ := deck_write (o' := .lst (ns.dropLast.map V.int)) k (.inr rfl) h2 (fun xs z => nomatch z) hi2
  refine h u H0 _ _ D' (kn.set (.refl _ _) kn.inv (w := .d (.int u)) (repD (.int u)) rfl j) (l.from ?_)
  exact (kp.toP).trans (keep_set (kn.toP (Q := fun _ => True) (deck_weak (fun _ _ => trivial) kn.inv)) (.refl _ _) (w := .d (.int u)) (repD (.int u)) rfl j).toP
/-- d['cells'].append(e) -/
theorem sh_app {px cpos apos : Pos} (hu : X.A.units + 1 < cLine) (hi : X.N[i]? = some x) (hw : ρ[i]? = some (some .deck)) (hQ : ∀ n, Q n → n ≤ 1000) (h : EC (deckFr d c Q) X e ρ fun w => ∃ u, w = .d (.int u) ∧ SH d c (fun n => ∃ n', n = n' + 1 ∧ Q n') P X ss ρ D)
    (hv : Vis X.env.scope x := by first | exact .inl rfl | exact .inr (.inl rfl) | exact .inr (.inr rfl)) (hd : (x == ("__debug__" : Str)) = false := by decide) (hcd : (x == ("__classdict__" : Str)) = false := by decide)
    (hsl : NoSl (.Constant (.str "cells") jj pp) := by exact fun _ _ => rfl)
    (hbase : attributeBase (.Subscript (.Name x p1) (.Constant (.str "cells") jj pp) px) "append" X.env (eval (.Subscript (.Name x p1) (.Constant (.str "cells") jj pp) px) X.env) = eval (.Subscript (.Name x p1) (.Constant (.str "cells") jj pp) px) X.env := by rfl)
    (hfew : ((backTo cpos (starEach [e] X.env)).all (fun x => !x.1) && (backToKw cpos (keywordEach [] X.env)).all (fun x => x.1.isSome) && decide ([e].length + ([] : List Keyword).length + (if ([] : List Keyword).isEmpty then 0 else 1) < 30)) = true := by rfl)
    (hline : (apos.endLine == cpos.line) = true := by rfl) (hst : starEach [e] X.env = (false, eval e X.env) :: starEach [] X.env := by rfl)
    (hs : swapsWith (.Call (.Attribute (.Subscript (.Name x p1) (.Constant (.str "cells") jj pp) px) "append" apos) [e] [] cpos) none pos.line X.env = pure false := by rfl) :
    SH d c Q P X (.Expr (.Call (.Attribute (.Subscript (.Name x p1) (.Constant (.str "cells") jj pp) px) "append" apos) [e] [] cpos) pos :: ss) ρ D := fun H0 H σ D' k l => by
  obtain ⟨n, m, t, ns, h1, h2, h3⟩ := k.inv
  refine PSs.c (pss_cons (ps_expr (pe_bm PySem.F.plainAttrs_list PySem.F.slot_list_append PySem.F.type_list_append mt_append (pe_dget hu (pe_var hi hv hd hcd) pe_str hsl) (pa_cons (cE.pe X e) pa_nil hst) hbase hfew hline hst rfl) hs) (cS.ps X ss)) ?_
  refine ⟨.ref d, deck_at k hw, d, .ref c, rfl, dkv_cells c m t ▸ DGet.k (k := kCells) h1, .inl ⟨rfl, _, SqL.of h2⟩, h.run k fun v H1 w e1 k1 r1 ⟨u, ew, hss⟩ => ?_⟩
  subst ew; cases r1
  obtain ⟨n, m, t, ns, h1, h2, h3⟩ := k1.inv
  have hi2 : (deckFr d c fun n => ∃ n', n = n' + 1 ∧ Q n').I (upd H1 c (.lst ((ns ++ [u]).map V.int))) := ⟨n, m, t, ns ++ [u], by rw [upd_ne n]; exact h1, upd_same, ns.length, by simp, h3⟩
  obtain ⟨kn, kp⟩ := deck_write (o' := .lst ((ns ++ [u]).map V.int)) k1 (.inr rfl) h2 (fun xs z => nomatch z) hi2
  refine ⟨c, ns.map V.int, .int u, rfl, rfl, h2, by rw [List.length_map]; exact Nat.lt_of_le_of_lt (hQ _ h3) (by decide), ?_⟩
  have ea : ns.map V.int ++ [V.int u] = (ns ++ [u]).map V.int := by rw [List.map_append]; rfl
  rw [ea]
  exact hss H0 _ _ D' kn (l.from ((Keep.ext e1).toP.trans kp.toP))
theorem sh_if {t : Expr} {sa : List Stmt} (h : ET (deckFr d c Q) X t ρ fun b => (b = true → SH d c Q P X sa ρ { nx := fun _ => False, rt := D.rt, bk := D.bk, ct := D.ct }) ∧ (b = false → SH d c Q P X ss ρ D)) : SH d c Q P X (.If t sa [] pos :: ss) ρ D := fun H0 H σ D' k l => by
  refine PSs.c (pss_cons (ps_if (cT.pt X t) (cS.ps X sa) (cS.ps X [])) (cS.ps X ss)) (h.run k fun b H1 e1 k1 ⟨h1, h2⟩ => ?_)
  have l1 : Lift (deckFr d c P) H0 H1 σ ρ D D' := l.from (Keep.ext e1).toP
  cases b with
  | true => exact h1 rfl H0 H1 σ _ k1 ⟨fun _ _ _ _ _ z => z.elim, l1.bk, l1.ct, l1.rt⟩
  | false => exact PSs.c pss_nil (h2 rfl H0 H1 σ D' k1 l1)
theorem sh_one (h : S1 (deckFr d c P) X st ρ D) (hQ : ∀ n, Q n → P n) : SH d c Q P X [st] ρ D := SH.of hQ (ss_one h)
end
/-- a deck of the law -/
def DK : Fr → Prop := fun F => ∃ d c, F = deckFr d c (fun n => n ≤ 63)
end Md
end MdOPart
section P8Part
set_option Elab.async false
set_option linter.all false
set_option maxRecDepth 100000
set_option maxHeartbeats 2000000
/-! the law's draws -/
namespace Md
open PySem L2
section
variable {F : Fr} {X : Cx} {ρ : Env1} {a b e : Expr} {pos p : Pos} {i j : Int}
theorem ev_mulc (ha : Ev F X a ρ (.d (.int i))) (hb : Ev F X b ρ (.d (.int j))) (h : CMul i j) : Ev F X (.BinOp a .Mult b pos) ρ (.d (.int (i * j))) := ec_mul (ha.then ⟨i, rfl, hb.then ⟨j, rfl, h, rfl⟩⟩)
theorem ev_modc (ha : Ev F X a ρ (.d (.int i))) (hb : Ev F X b ρ (.d (.int j))) (h : 0 < j) : Ev F X (.BinOp a .Mod b pos) ρ (.d (.int (i % j))) := ec_mod (ha.then ⟨i, rfl, hb.then ⟨j, rfl, h, rfl⟩⟩)
theorem ev_fdivc (ha : Ev F X a ρ (.d (.int i))) (hb : Ev F X b ρ (.d (.int j))) (h : CDiv i j) : Ev F X (.BinOp a .FloorDiv b pos) ρ (.d (.int (i / j))) := ec_fdiv (ha.then ⟨i, rfl, hb.then ⟨j, rfl, h, rfl⟩⟩)
theorem ev_powc (ha : Ev F X a ρ (.d (.int i))) (hb : Ev F X b ρ (.d (.int j))) (h : CPow i j) : Ev F X (.BinOp a .Pow b pos) ρ (.d (.int (i ^ j.toNat))) := ec_pow (ha.then ⟨i, rfl, hb.then ⟨j, rfl, h, rfl⟩⟩)
theorem ev_intc (hg : Gl X "int") (hm : X.mg "int" = none) (h : Ev F X e ρ (.d (.int i))) (hs : starEach [e] X.env = (false, eval e X.env) :: starEach [] X.env := by rfl) : Ev F X (.Call (.Name "int" p) [e] [] pos) ρ (.d (.int i)) := ec_int hg hm (h.then ⟨i, rfl, rfl⟩) hs
end
def sp_law_draw : Spec := fun ws Φ => ∃ k : Int, ws = [.deck, .d (.int k)] ∧ 0 < k ∧ k < 1000000 ∧ ∀ i, 0 ≤ i → i < k → Φ (.d (.int i))
section
variable {P : Program} {w : World} {K : PySem.W.Frag} {mg : Str → Option Value} {base : Heap} {f : Addr} {fd : FuncData}
theorem ok_law_draw (F : Fun K "_law_draw" "_law_draw" s_law_draw f fd) (B : Bt mg) : FnOk P w K mg base CX0 1 f fd ["_law_deck_here", "_law_below"] (spD DK sp_law_draw) := by
  refine fnD F sc_law_draw (by decide) (fun ws Φ ⟨i, h, _⟩ => by rw [h]; rfl) fun cdv A outer s0 H E G ws Φ hC hr hS => ?_
  obtain ⟨k, rfl, hk, hk2, hΦ⟩ := hS
  obtain ⟨d, c, rfl⟩ := hC
  have hu := hu_of hr
  have hu64 : (bx P w K mg base N_law_draw "_law_draw" s_law_draw f cdv A outer s0 H E).A.units + 64 < cLine := hr.units
  have fin : ∀ x : Int, Φ (.d (.int (x % k))) := fun x => hΦ _ (Int.emod_nonneg _ (by omega)) (Int.emod_lt_of_pos _ hk)
  refine ss_cons (s_dturn hu (i := 0) rfl rfl (ec_add (ec_dturn hu (i := 0) rfl rfl fun t => ⟨t, rfl, Ev.then ev_int ⟨1, rfl, _, rfl, ?_⟩⟩)))
  refine ss_cons (s_set (i := 2) (sc_law_draw).nd rfl (.inl rfl) (ec_add (ec_dmixed hu (i := 0) rfl rfl fun m => ⟨m, rfl, ec_mul (Ev.then ev_int ⟨42043, rfl, ec_dturn hu (i := 0) rfl rfl fun t => ⟨t, rfl, .inl ⟨by decide, by decide⟩, _, rfl, rfl, ?_⟩⟩)⟩)))
  -- behind the cells
  have rest : ∀ (g : Int) (c3 : Option Md.W), SS (deckFr d c fun n => n ≤ 63) (bx P w K mg base N_law_draw "_law_draw" s_law_draw f cdv A outer s0 H E) ((defBody s_law_draw).drop 3) [some .deck, some (.d (.int k)), some (.d (.int g)), c3] { nx := fun _ => Φ (.d .non), rt := Φ } := fun g c3 => by
    refine ss_cons (s_set (i := 2) (sc_law_draw).nd rfl (.inl rfl) (Ev.then (ev_modc (ev_intc rfl B.int (ev_add (ev_mulc (vd (i := 2) rfl rfl) ev_int (.inr ⟨by decide, by decide⟩)) ev_int)) ev_int (by decide)) ⟨rfl, ?_⟩))
    have b1 : 0 ≤ (g * 39373 + 67) % 2147483549 ∧ (g * 39373 + 67) % 2147483549 < 2147483549 := by omega
    generalize (g * 39373 + 67) % 2147483549 = g1 at b1
    refine ss_cons (s_set (i := 2) (sc_law_draw).nd rfl (.inl rfl) (ec_mod (ec_int rfl B.int (ec_add (ec_add (Ev.then (ev_mulc (vd (i := 2) rfl rfl) (vd (i := 2) rfl rfl) (.inr ⟨by omega, by omega⟩)) ⟨_, rfl, ec_mul (Ev.then ev_int ⟨58391, rfl, ec_dturn hu (i := 0) rfl rfl fun t => ⟨t, rfl, .inl ⟨by decide, by decide⟩, _, rfl, _, rfl, Ev.then ev_int ⟨67, rfl, _, rfl, _, rfl, Ev.then ev_int ⟨2147483579, rfl, by decide, rfl, ?_⟩⟩⟩⟩)⟩))))))
    refine ss_cons (s_set (i := 2) (sc_law_draw).nd rfl (.inl rfl) (Ev.then (ev_modc (ev_intc rfl B.int (ev_mulc (vd (i := 2) rfl rfl) ev_int (.inr ⟨by decide, by decide⟩))) ev_int (by decide)) ⟨rfl, ?_⟩))
    exact ss_one (s_ret (Ev.then (ev_modc (ev_intc rfl B.int (ev_fdivc (vd (i := 2) rfl rfl) ev_int ⟨by decide, by decide⟩)) (vd (i := 1) rfl rfl) hk) (fin _)))
  refine ss_cons (s_ifCells hu64 (i := 0) rfl rfl ?_ (ss_nil (rest _ _)))
  refine sh_pop (i := 0) (j := 3) (sc_law_draw).nd hu rfl rfl rfl (.inl rfl) (fun n h => h.2) fun u => ?_
  refine sh_if (EvT.then (et_ge (vd (i := 3) rfl rfl) (ev_powc ev_int ev_int ⟨by decide, by decide, by decide⟩)) ⟨fun hb => ?_, fun hb => ?_⟩)
  · refine sh_app (i := 0) hu rfl rfl (fun n h => by omega) ?_
    refine ec_fdiv (Ev.then (vd (i := 3) rfl rfl) ⟨_, rfl, ec_max rfl rfl B.max (EvA.then (eva_cons ev_int (eva_cons (vd (i := 1) rfl rfl) eva_nil)) ⟨2, k, rfl, _, rfl, ?_, _, rfl, ?_⟩)⟩)
    · have e : 2 ≤ (if k > (2 : Int) then k else 2) ∧ (if k > (2 : Int) then k else 2) < 1000000 := by
        by_cases h : k > (2 : Int)
        · rw [if_pos h]; omega
        · rw [if_neg h]; omega
      exact ⟨by omega, by omega⟩
    · refine sh_one (s_ret (Ev.then (ev_modc (ev_intc rfl B.int (vd (i := 3) rfl rfl)) (vd (i := 1) rfl rfl) hk) (fin _))) (fun n h => ?_)
      obtain ⟨n', e, h1, h2⟩ := h
      omega
  · refine sh_one (s_set (i := 2) (sc_law_draw).nd rfl (.inl rfl) (Ev.then (ev_add (vd (i := 2) rfl rfl) (ev_modc (ev_intc rfl B.int (vd (i := 3) rfl rfl)) ev_int (by decide))) ⟨rfl, rest _ _⟩)) (fun n h => by have := h.1; omega)
end
end Md
end P8Part
section P8bPart
set_option Elab.async false
set_option linter.all false
set_option maxRecDepth 100000
set_option maxHeartbeats 2000000
/-! the law's gardens -/
namespace Md
open PySem L2
section
variable {F : Fr} {X : Cx} {ρ : Env1} {a b e : Expr} {pos p : Pos} {i j : Int}
theorem ec_listR2 {m n : Expr} {p2 q : Pos} {Φ : W → Prop} (hc : X.calm = true) (hg : Gl X "list") (hm : X.mg "list" = none) (hg2 : Gl X "range") (hm2 : X.mg "range" = none) (h : EC F X m ρ fun w => ∃ l : Nat, w = .d (dN l) ∧ EC F X n ρ fun w => ∃ u : Nat, w = .d (dN u) ∧ l ≤ 1000 ∧ u ≤ 1000 ∧ Φ (.lst true ((List.range' l (u - l)).map dN)))
    (na : starEach [m, n] X.env = (false, eval m X.env) :: starEach [n] X.env := by rfl) (na1 : starEach [n] X.env = (false, eval n X.env) :: starEach [] X.env := by rfl) (na2 : starEach [.Call (.Name "range" p2) [m, n] [] q] X.env = (false, eval (.Call (.Name "range" p2) [m, n] [] q) X.env) :: starEach [] X.env := by rfl) (hpl : (backTo q (starEach [n] X.env)).any (·.1) = false := by rfl) :
    EC F X (.Call (.Name "list" p) [.Call (.Name "range" p2) [m, n] [] q] [] pos) ρ Φ := fun H0 H σ k Q qq =>
  PE.c (pe_listRg hc hg hm (prg_2 hg2 hm2 (cE.pe X m) (cE.pe X n) na na1 hpl) na2) (h.run k fun va H1 wa e1 k1 r1 ⟨l, ew, h1⟩ => h1.run k1 fun vb H2 wb e2 k2 r2 ⟨u, ew2, h3, h4, p1⟩ => by
    subst ew; cases r1; subst ew2; cases r2
    refine ⟨(l : Int), (u : Int), rfl, rfl, RgOk.of_le (by omega) (by omega) (by omega) (by omega), fun pp hp => ?_⟩
    have rr : Reps H2 (rgV (l : Int) (u : Int)) ((List.range' l (u - l)).map dN) := by
      refine Reps.of_get (by rw [rgV_length, List.length_map, List.length_range']; omega) fun i v d hv hd => ?_
      unfold rgV at hv
      rw [List.getElem?_map] at hv hd
      cases h5 : (List.range ((u : Int) - (l : Int)).toNat)[i]? with
      | none => rw [h5] at hv; cases hv
      | some j =>
        rw [h5] at hv
        cases hv
        have hj : j = i ∧ i < ((u : Int) - (l : Int)).toNat := by
          have := List.getElem?_eq_some_iff.mp h5
          obtain ⟨hl, he⟩ := this
          simp at hl he
          omega
        rw [List.getElem?_range' (by omega)] at hd
        cases hd
        have e : ((l + 1 * i : Nat) : Int) = (l : Int) + ((j : Nat) : Int) := by omega
        show Rep H2 (V.int ((l : Int) + ((j : Nat) : Int))) (Dat.int ((l + 1 * i : Nat) : Int))
        rw [e]
        exact .int _
    exact qq _ _ _ ((e1.trans e2).trans (Ext.new hp)) (inv_new k2.inv hp) ((repL_new k2.inv hp rr).back (e1.trans e2)) p1)
end
def sp_law_pick : Spec := fun ws Φ => ∃ ds : List Dat, ws = [.deck, .lst false ds] ∧ ds ≠ [] ∧ ds.length ≤ 1000 ∧ ∀ d, d ∈ ds → Φ (.d d)
def sp_law_tie : Spec := fun ws Φ => ∃ a b k : Nat, ws = [.deck, .d (dN a), .d (dN b), .d (dN k)] ∧ 0 < k ∧ k ≤ 3 ∧ ∀ c, c < k → Φ (.d (dTie (a, b, c))) ∧ Φ (.d (dTie (b, a, c)))
def sp_law_further : Spec := fun ws Φ => ∃ n k : Nat, ws = [.deck, .d (dN n), .d (dN k)] ∧ 2 ≤ n ∧ n ≤ 7 ∧ 0 < k ∧ k ≤ 3 ∧ ∀ t, TieOk n k t → Φ (.d (dTie t))
def sp_law_web : Spec := fun ws Φ => ∃ k : Nat, ws = [.deck, .d (dN k)] ∧ 0 < k ∧ k ≤ 3 ∧ ∀ W : Web, W.Ok k → 2 ≤ W.n → Φ (.d (dWeb W))
theorem next_ne {n a : Nat} {i : Int} (hn : 2 ≤ n) (ha : a < n) (h0 : 0 ≤ i) (h1 : i < (n : Int) - 1) : ∃ b : Nat, ((a : Int) + 1 + i) % (n : Int) = (b : Int) ∧ b < n ∧ a ≠ b := by
  obtain ⟨j, rfl⟩ := Int.eq_ofNat_of_zero_le h0
  refine ⟨(a + 1 + j) % n, by rw [Int.natCast_emod, Int.natCast_add, Int.natCast_add]; rfl, Nat.mod_lt _ (by omega), ?_⟩
  by_cases h : a + 1 + j < n
  · rw [Nat.mod_eq_of_lt h]; omega
  · rw [Nat.mod_eq_sub_mod (by omega), Nat.mod_eq_of_lt (by omega)]; omega
section
variable {P : Program} {w : World} {K : PySem.W.Frag} {mg : Str → Option Value} {base : Heap} {f : Addr} {fd : FuncData}
theorem ok_law_pick (F : Fun K "_law_pick" "_law_pick" s_law_pick f fd) (B : Bt mg) (h_law_draw : HasFn P w K mg base "_law_draw" 1 (spD DK sp_law_draw)) : FnOk P w K mg base CX0 2 f fd ["_law_deck_here", "_law_some"] (spD DK sp_law_pick) := by
  refine fnD F sc_law_pick (by decide) (fun ws Φ ⟨i, h, _⟩ => by rw [h]; rfl) fun cdv A outer s0 H E G ws Φ hC hr hS => ?_
  obtain ⟨ds, rfl, hne, hl, hΦ⟩ := hS
  have hp : 0 < ds.length := List.length_pos_iff.mpr hne
  refine ss_one (s_ret (ec_ix (Ev.then (vl (i := 1) rfl rfl) ⟨ds, rfl, ec_callD hC h_law_draw hr rfl (EvA.then (eva_cons (vk (i := 0) rfl rfl) (eva_cons (ev_len rfl B.len (vl (i := 1) rfl rfl) rfl) eva_nil)) ⟨_, rfl, by omega, by omega, fun i h0 h1 => ?_⟩)⟩)))
  obtain ⟨j, rfl⟩ := Int.eq_ofNat_of_zero_le h0
  have hj : j < ds.length := by omega
  exact ⟨_, ds[j], rfl, atI_of (List.getElem?_eq_getElem hj), hΦ _ (List.getElem_mem hj)⟩
theorem ok_law_tie (F : Fun K "_law_tie" "_law_tie" s_law_tie f fd) (B : Bt mg) (h_law_draw : HasFn P w K mg base "_law_draw" 1 (spD DK sp_law_draw)) : FnOk P w K mg base CX0 2 f fd ["_law_deck_here", "_law_a", "_law_b", "_law_kinds"] (spD DK sp_law_tie) := by
  refine fnD F sc_law_tie (by decide) (fun ws Φ ⟨a, b, k, h, _⟩ => by rw [h]; rfl) fun cdv A outer s0 H E G ws Φ hC hr hS => ?_
  obtain ⟨a, b, k, rfl, hk, hk3, hΦ⟩ := hS
  refine ss_one (s_ret (ec_if (et_cmpI op_eqI (nomark _) (ec_callD hC h_law_draw hr rfl (EvA.then (eva_cons (vk (i := 0) rfl rfl) (eva_cons ev_int eva_nil)) ⟨2, rfl, by decide, by decide, fun i h0 h1 => ⟨i, rfl, Ev.then ev_int ⟨0, rfl, fun hb => ?_, fun hb => ?_⟩⟩⟩)))))
  · refine ec_tup (ea_cons (Ev.then (vd (i := 1) rfl rfl) (ea_cons (Ev.then (vd (i := 2) rfl rfl) (ea_cons (ec_callD hC h_law_draw hr rfl (EvA.then (eva_cons (vk (i := 0) rfl rfl) (eva_cons (vd (i := 3) rfl rfl) eva_nil)) ⟨(k : Int), rfl, by omega, by omega, fun i h0 h1 => ea_nil ⟨_, .cons (.cons (.cons .nil)), by simp, ?_⟩⟩)))))))
    obtain ⟨c, rfl⟩ := Int.eq_ofNat_of_zero_le h0
    exact (hΦ c (by omega)).1
  · refine ec_tup (ea_cons (Ev.then (vd (i := 2) rfl rfl) (ea_cons (Ev.then (vd (i := 1) rfl rfl) (ea_cons (ec_callD hC h_law_draw hr rfl (EvA.then (eva_cons (vk (i := 0) rfl rfl) (eva_cons (vd (i := 3) rfl rfl) eva_nil)) ⟨(k : Int), rfl, by omega, by omega, fun i h0 h1 => ea_nil ⟨_, .cons (.cons (.cons .nil)), by simp, ?_⟩⟩)))))))
    obtain ⟨c, rfl⟩ := Int.eq_ofNat_of_zero_le h0
    exact (hΦ c (by omega)).2
theorem ok_law_further (F : Fun K "_law_further" "_law_further" s_law_further f fd) (B : Bt mg) (h_law_draw : HasFn P w K mg base "_law_draw" 1 (spD DK sp_law_draw)) (h_law_tie : HasFn P w K mg base "_law_tie" 2 (spD DK sp_law_tie)) : FnOk P w K mg base CX0 3 f fd ["_law_deck_here", "_law_many", "_law_kinds"] (spD DK sp_law_further) := by
  refine fnD F sc_law_further (by decide) (fun ws Φ ⟨a, k, h, _⟩ => by rw [h]; rfl) fun cdv A outer s0 H E G ws Φ hC hr hS => ?_
  obtain ⟨n, k, rfl, hn, hn7, hk, hk3, hΦ⟩ := hS
  refine ss_cons (s_set (i := 3) (sc_law_further).nd rfl (.inl rfl) (ec_callD hC h_law_draw (hr.mono (by decide)) rfl (EvA.then (eva_cons (vk (i := 0) rfl rfl) (eva_cons (vd (i := 1) rfl rfl) eva_nil)) ⟨(n : Int), rfl, by omega, by omega, fun i h0 h1 => ⟨rfl, ?_⟩⟩)))
  obtain ⟨a, rfl⟩ := Int.eq_ofNat_of_zero_le h0
  refine ss_one (s_ret (ec_callD hC h_law_tie hr rfl (ea_cons (Ev.then (vk (i := 0) rfl rfl) (ea_cons (Ev.then (vd (i := 3) rfl rfl) (ea_cons ?_)))))))
  refine ec_mod (ec_int rfl B.int (ec_add (Ev.then (ev_add (vd (i := 3) rfl rfl) ev_int) ⟨_, rfl, ec_callD hC h_law_draw (hr.mono (by decide)) rfl (EvA.then (eva_cons (vk (i := 0) rfl rfl) (eva_cons (ev_sub (vd (i := 1) rfl rfl) ev_int) eva_nil)) ⟨_, rfl, by omega, by omega, fun i h0 h1 => ⟨i, rfl, _, rfl, _, rfl, ?_⟩⟩)⟩)))
  refine Ev.then (vd (i := 1) rfl rfl) ⟨(n : Int), rfl, by omega, ?_⟩
  have ha : a < n := by omega
  obtain ⟨b, eb, hb, hab⟩ := next_ne (a := a) hn (by omega) h0 h1
  rw [eb]
  refine ea_cons (Ev.then (vd (i := 2) rfl rfl) (ea_nil ⟨a, b, k, rfl, hk, hk3, fun c hc => ⟨hΦ _ ⟨ha, hb, hab, hc⟩, hΦ _ ⟨hb, ha, fun z => hab z.symm, hc⟩⟩⟩))
theorem web_made {n k : Nat} {ts ts' : List Tie} (hn : 2 ≤ n) (hn7 : n ≤ 7) (hts : ∀ t, t ∈ ts → TieOk n k t) (hl : ts.length ≤ 10) (hp : ts'.Perm ts) (hs : ts'.Pairwise fun s t => tkey s ≤ tkey t) : (⟨n, ts'⟩ : Web).Ok k :=
  ⟨by show 1 ≤ n; omega, hn7, by show ts'.length ≤ 10; rw [hp.length_eq]; exact hl, fun t ht => hts t (hp.mem_iff.mp ht), hs⟩
theorem small_ties {n k : Nat} {ts : List Tie} (hn7 : n ≤ 7) (hk : k ≤ 3) (hts : ∀ t, t ∈ ts → TieOk n k t) : ∀ t, t ∈ ts → Small t := fun t ht => by
  obtain ⟨h1, h2, h3, h4⟩ := hts t ht
  exact ⟨by omega, by omega, by omega⟩
theorem ok_law_start (F : Fun K "_law_start" "_law_start" s_law_start f fd) (B : Bt mg) (h_law_draw : HasFn P w K mg base "_law_draw" 1 (spD DK sp_law_draw)) (h_law_pick : HasFn P w K mg base "_law_pick" 2 (spD DK sp_law_pick)) (h_law_tie : HasFn P w K mg base "_law_tie" 2 (spD DK sp_law_tie)) (h_law_further : HasFn P w K mg base "_law_further" 3 (spD DK sp_law_further)) :
    FnOk P w K mg base CX0 4 f fd ["_law_deck_here", "_law_kinds"] (spD DK sp_law_web) := by
  refine fnD F sc_law_start (by decide) (fun ws Φ ⟨k, h, _⟩ => by rw [h]; rfl) fun cdv A outer s0 H E G ws Φ hC hr hS => ?_
  obtain ⟨k, rfl, hk, hk3, hΦ⟩ := hS
  refine ss_cons (s_par2 (i := 2) (j := 3) rfl (sc_law_start).nd rfl rfl (by decide) rfl rfl (ec_callD hC h_law_pick (hr.mono (by decide)) rfl (EvA.then (eva_cons (vk (i := 0) rfl rfl) (eva_cons (ev_lst (eva_cons ev_int (eva_cons ev_int (eva_cons ev_int (eva_cons ev_int (eva_cons ev_int (eva_cons ev_int eva_nil)))))) (.cons (.cons (.cons (.cons (.cons (.cons .nil))))))) eva_nil)) ⟨_, rfl, by simp, by simp, fun d hd => ⟨rfl, Ev.then (ev_lst eva_nil .nil) ⟨rfl, ?_⟩⟩⟩)))
  obtain ⟨n, rfl, hn, hn7⟩ : ∃ n : Nat, d = dN n ∧ 2 ≤ n ∧ n ≤ 7 := by
    simp only [List.mem_cons, List.not_mem_nil, or_false] at hd
    rcases hd with rfl | rfl | rfl | rfl | rfl | rfl
    · exact ⟨2, rfl, by decide, by decide⟩
    · exact ⟨3, rfl, by decide, by decide⟩
    · exact ⟨4, rfl, by decide, by decide⟩
    · exact ⟨5, rfl, by decide, by decide⟩
    · exact ⟨7, rfl, by decide, by decide⟩
    · exact ⟨2, rfl, by decide, by decide⟩
  refine ss_cons (s_for pat_name rfl (pg_name (i := 4) (sc_law_start).nd rfl (.inl rfl)) PassesOwn.never (ei_range2 rfl B.range (Ev.then ev_int ⟨1, rfl, by decide, by decide, Ev.then (vd (i := 2) rfl rfl) ⟨(n : Int), rfl, by omega, by omega,
    fun i ρ' => ∃ (ts : List Tie) (c4 : Option Md.W), ρ' = [some .deck, some (.d (dN k)), some (.d (dN n)), some (.lst true (ts.map dTie)), c4, none] ∧ (∀ t, t ∈ ts → TieOk n k t) ∧ ts.length ≤ i, ⟨[], _, rfl, (fun t ht => by cases ht), by simp⟩, ?_, ?_⟩⟩)))
  · rintro i dd ρ' hd ⟨ts, c4, rfl, hts, hl⟩
    obtain ⟨hi, rfl⟩ : i < n - 1 ∧ dd = dN (1 + i) := by
      unfold rangeD at hd
      rw [List.getElem?_map] at hd
      by_cases h : i < ((n : Int) - 1).toNat
      · rw [List.getElem?_range h] at hd
        cases hd
        exact ⟨by omega, by show Dat.int (1 + (i : Int)) = Dat.int ((1 + i : Nat) : Int); congr 1⟩
      · rw [List.getElem?_eq_none (by simp; omega)] at hd; cases hd
    refine ⟨_, rfl, ss_one (s_if (et_cmpI op_gt (nomark _) (ec_callD hC h_law_draw (hr.mono (by decide)) rfl (EvA.then (eva_cons (vk (i := 0) rfl rfl) (eva_cons ev_int eva_nil)) ⟨6, rfl, by decide, by decide, fun u h0 h1 => ⟨u, rfl, Ev.then ev_int ⟨0, rfl, fun hb => ?_, fun hb => ?_⟩⟩⟩))))⟩
    · refine ss_one (s_app (i := 3) rfl (.inl rfl) rfl (by rw [List.length_map]; omega) (ec_callD hC h_law_tie (hr.mono (by decide)) rfl (ea_cons (Ev.then (vk (i := 0) rfl rfl) (ea_cons (Ev.then (vd (i := 4) rfl rfl) (ea_cons (ec_callD hC h_law_draw (hr.mono (by decide)) rfl (EvA.then (eva_cons (vk (i := 0) rfl rfl) (eva_cons (vd (i := 4) rfl rfl) eva_nil)) ⟨((1 + i : Nat) : Int), rfl, by omega, by omega, fun v h2 h3 => ?_⟩)))))))))
      obtain ⟨b, rfl⟩ := Int.eq_ofNat_of_zero_le h2
      have hb : b < 1 + i := by omega
      have hin : 1 + i < n := by omega
      refine ea_cons (Ev.then (vd (i := 1) rfl rfl) (ea_nil ⟨1 + i, b, k, rfl, hk, hk3, fun c hc => ?_⟩))
      have mk : ∀ t : Tie, TieOk n k t → ∃ (ts' : List Tie) (c4 : Option Md.W), [some .deck, some (.d (dN k)), some (.d (dN n)), some (.lst true (ts.map dTie ++ [dTie t])), some (.d (dN (1 + i))), none] = [some .deck, some (.d (dN k)), some (.d (dN n)), some (.lst true (ts'.map dTie)), c4, none] ∧ (∀ t, t ∈ ts' → TieOk n k t) ∧ ts'.length ≤ i + 1 := fun t ht =>
        ⟨ts ++ [t], _, by rw [List.map_append]; rfl, fun t' ht' => by
          rcases List.mem_append.mp ht' with h | h
          · exact hts t' h
          · rw [List.mem_singleton.mp h]; exact ht, by simp; omega⟩
      exact ⟨⟨_, rfl, mk _ ⟨hin, by show b < n; omega, by show 1 + i ≠ b; omega, hc⟩⟩, ⟨_, rfl, mk _ ⟨by show b < n; omega, hin, by show b ≠ 1 + i; omega, hc⟩⟩⟩
    · exact ss_nil ⟨ts, _, rfl, hts, by omega⟩
  · rintro ρ' ⟨ts, c4, rfl, hts, hl⟩
    have hl6 : ts.length ≤ 6 := by
      have : (rangeD 1 ((n : Int) - 1).toNat).length = n - 1 := by simp [rangeD]
      omega
    refine ss_cons (s_for pat_name rfl (pg_name (i := 5) (sc_law_start).nd rfl (.inl rfl)) PassesOwn.never (ei_range1 rfl B.range (ec_callD hC h_law_draw (hr.mono (by decide)) rfl (EvA.then (eva_cons (vk (i := 0) rfl rfl) (eva_cons ev_int eva_nil)) ⟨4, rfl, by decide, by decide, fun u h0 h1 => ⟨u, rfl, by omega, by omega,
      fun i ρ' => ∃ (ts : List Tie) (c5 : Option Md.W), ρ' = [some .deck, some (.d (dN k)), some (.d (dN n)), some (.lst true (ts.map dTie)), c4, c5] ∧ (∀ t, t ∈ ts → TieOk n k t) ∧ ts.length ≤ 6 + i, ⟨ts, _, rfl, hts, by omega⟩, ?_, ?_⟩⟩))))
    · rintro i dd ρ' hd ⟨ts, c5, rfl, hts, hl⟩
      have hi : i < 4 := by have := (List.getElem?_eq_some_iff.mp hd).1; simp [rangeD] at this; omega
      refine ⟨_, rfl, ss_one (s_app (i := 3) rfl (.inl rfl) rfl (by rw [List.length_map]; omega) (ec_callD hC h_law_further (hr.mono (by decide)) rfl (EvA.then (eva_cons (vk (i := 0) rfl rfl) (eva_cons (vd (i := 2) rfl rfl) (eva_cons (vd (i := 1) rfl rfl) eva_nil))) ⟨n, k, rfl, hn, hn7, hk, hk3, fun t ht => ⟨_, rfl, ts ++ [t], some (.d dd), ?_, fun t' ht' => ?_, by simp; omega⟩⟩)))⟩
      · rw [List.map_append]; rfl
      · rcases List.mem_append.mp ht' with h | h
        · exact hts t' h
        · rw [List.mem_singleton.mp h]; exact ht
    · rintro ρ' ⟨ts, c5, rfl, hts, hl⟩
      have hl9 : ts.length ≤ 9 := by
        have : (rangeD 0 u.toNat).length ≤ 3 := by simp [rangeD]; omega
        omega
      refine ss_one (s_ret (ec_tup (ea_cons (Ev.then (vd (i := 2) rfl rfl) (ea_cons (ec_tuple rfl B.tuple (ec_sorted rfl B.sorted (Ev.then (vl (i := 3) rfl rfl) ⟨ts, rfl, by omega, small_ties hn7 hk3 hts, fun ts' hp hs => ⟨_, rfl, ea_nil ⟨_, .cons (.cons .nil), by simp, ?_⟩⟩⟩))))))))
      exact hΦ ⟨n, ts'⟩ (web_made hn hn7 hts (by omega) hp hs) hn
end
end Md
end P8bPart
section P8cPart
set_option Elab.async false
set_option linter.all false
set_option maxRecDepth 100000
set_option maxHeartbeats 2000000
/-! the law's growths; the script's deck -/
namespace Md
open PySem L2
theorem ties_more {n k : Nat} {ts : List Tie} {t : Tie} (h : ∀ t, t ∈ ts → TieOk n k t) (ht : TieOk n k t) : ∀ t', t' ∈ ts ++ [t] → TieOk n k t' := fun t' ht' => by
  rcases List.mem_append.mp ht' with h' | h'
  · exact h t' h'
  · rw [List.mem_singleton.mp h']; exact ht
theorem go_tbl {v : Nat} (h : v < 9) : ∃ g : Nat, atI [Dat.int 0, .int 0, .int 1, .int 1, .int 2, .int 1, .int 2, .int 1, .int 1] (v : Int) = some (dN g) ∧ g ≤ 2 ∧ (v = 8 → 1 ≤ g) := by
  match v, h with
  | 0, _ => exact ⟨0, rfl, by decide, by decide⟩
  | 1, _ => exact ⟨0, rfl, by decide, by decide⟩
  | 2, _ => exact ⟨1, rfl, by decide, by decide⟩
  | 3, _ => exact ⟨1, rfl, by decide, by decide⟩
  | 4, _ => exact ⟨2, rfl, by decide, by decide⟩
  | 5, _ => exact ⟨1, rfl, by decide, by decide⟩
  | 6, _ => exact ⟨2, rfl, by decide, by decide⟩
  | 7, _ => exact ⟨1, rfl, by decide, by decide⟩
  | 8, _ => exact ⟨1, rfl, by decide, by decide⟩
/-- the places left, the place where it is -/
structure LeftOk (n : Nat) (ls : List Nat) (a : Nat) : Prop where
  nd : ls.Nodup
  inn : ∀ x, x ∈ ls → 2 ≤ x ∧ x < n
  out : a ∉ ls
  lt : a < n
  ne : a ≠ 1
theorem left_start {n : Nat} (hn : 2 ≤ n) : LeftOk n (List.range' 2 (n - 2)) 0 :=
  ⟨List.nodup_range', fun x hx => by rw [List.mem_range'_1] at hx; omega, fun h => by rw [List.mem_range'_1] at h; omega, by omega, by decide⟩
theorem left_pop {n j x a : Nat} {ls : List Nat} (h : LeftOk n ls a) (hj : ls[j]? = some x) : LeftOk n (ls.eraseIdx j) x ∧ x ≠ a := by
  have hx := List.mem_of_getElem? hj
  obtain ⟨hjl, hje⟩ := List.getElem?_eq_some_iff.mp hj
  refine ⟨⟨h.nd.eraseIdx j, fun y hy => h.inn y (List.mem_of_mem_eraseIdx hy), fun hm => ?_, (h.inn x hx).2, by have := (h.inn x hx).1; omega⟩, fun e => h.out (e ▸ hx)⟩
  rw [List.mem_eraseIdx_iff_getElem?] at hm
  obtain ⟨i, hi, he⟩ := hm
  obtain ⟨hil, hie⟩ := List.getElem?_eq_some_iff.mp he
  have pw := List.pairwise_iff_getElem.mp h.nd
  rcases Nat.lt_or_gt_of_ne hi with hlt | hlt
  · exact pw i j hil hjl hlt (hie.trans hje.symm)
  · exact pw j i hjl hil hlt (hje.trans hie.symm)
theorem erase_map {α β : Type} (f : α → β) : ∀ (l : List α) (n : Nat), (l.map f).eraseIdx n = (l.eraseIdx n).map f
  | [], _ => rfl
  | _ :: _, 0 => rfl
  | a :: l, n + 1 => by show f a :: (l.map f).eraseIdx n = f a :: (l.eraseIdx n).map f; rw [erase_map f l n]
section
variable {P : Program} {w : World} {K : PySem.W.Frag} {mg : Str → Option Value} {base : Heap} {f : Addr} {fd : FuncData}
abbrev GrE (k n v : Nat) (ts : List Tie) (a b c d e : Option Md.W) : Env1 := [some .deck, some (.d (dN k)), some (.d (dN n)), some (.d (dN v)), some (.lst true (ts.map dTie)), a, b, c, d, e]
theorem ok_law_growth (F : Fun K "_law_growth" "_law_growth" s_law_growth f fd) (B : Bt mg) (h_law_draw : HasFn P w K mg base "_law_draw" 1 (spD DK sp_law_draw)) (h_law_pick : HasFn P w K mg base "_law_pick" 2 (spD DK sp_law_pick)) (h_law_tie : HasFn P w K mg base "_law_tie" 2 (spD DK sp_law_tie)) (h_law_further : HasFn P w K mg base "_law_further" 3 (spD DK sp_law_further)) :
    FnOk P w K mg base CX0 4 f fd ["_law_deck_here", "_law_kinds"] (spD DK sp_law_web) := by
  refine fnD F sc_law_growth (by decide) (fun ws Φ ⟨k, h, _⟩ => by rw [h]; rfl) fun cdv A outer s0 H E G ws Φ hC hr hS => ?_
  obtain ⟨k, rfl, hk, hk3, hΦ⟩ := hS
  refine ss_cons (s_par3 (i := 2) (j := 3) (m := 4) rfl (sc_law_growth).nd rfl rfl rfl (by decide) (by decide) (by decide) rfl rfl rfl (ec_callD hC h_law_pick (hr.mono (by decide)) rfl (EvA.then (eva_cons (vk (i := 0) rfl rfl) (eva_cons (ev_lst (eva_cons ev_int (eva_cons ev_int (eva_cons ev_int (eva_cons ev_int (eva_cons ev_int (eva_cons ev_int (eva_cons ev_int eva_nil))))))) (.cons (.cons (.cons (.cons (.cons (.cons (.cons .nil)))))))) eva_nil)) ⟨_, rfl, by simp, by simp, fun d hd => ⟨rfl,
    ec_callD hC h_law_draw (hr.mono (by decide)) rfl (EvA.then (eva_cons (vk (i := 0) rfl rfl) (eva_cons ev_int eva_nil)) ⟨9, rfl, by decide, by decide, fun v0 h0 h1 => ⟨rfl, Ev.then (ev_lst eva_nil .nil) ⟨rfl, ?_⟩⟩⟩)⟩⟩)))
  obtain ⟨n, rfl, hn, hn7⟩ : ∃ n : Nat, d = dN n ∧ 2 ≤ n ∧ n ≤ 7 := by
    simp only [List.mem_cons, List.not_mem_nil, or_false] at hd
    rcases hd with rfl | rfl | rfl | rfl | rfl | rfl | rfl
    · exact ⟨3, rfl, by decide, by decide⟩
    · exact ⟨2, rfl, by decide, by decide⟩
    · exact ⟨4, rfl, by decide, by decide⟩
    · exact ⟨3, rfl, by decide, by decide⟩
    · exact ⟨5, rfl, by decide, by decide⟩
    · exact ⟨2, rfl, by decide, by decide⟩
    · exact ⟨6, rfl, by decide, by decide⟩
  obtain ⟨v, rfl⟩ := Int.eq_ofNat_of_zero_le h0
  obtain ⟨g, hg, hg2, hg8⟩ := go_tbl (v := v) (by omega)
  refine ss_cons (s_for pat_name rfl (pg_name (i := 5) (sc_law_growth).nd rfl (.inl rfl)) PassesOwn.never (ei_range1 rfl B.range (Ev.then (ev_ix (ev_tup (eva_cons ev_int (eva_cons ev_int (eva_cons ev_int (eva_cons ev_int (eva_cons ev_int (eva_cons ev_int (eva_cons ev_int (eva_cons ev_int (eva_cons ev_int eva_nil))))))))) (.cons (.cons (.cons (.cons (.cons (.cons (.cons (.cons (.cons .nil)))))))))) (vd (i := 3) rfl rfl) rfl hg) ⟨(g : Int), rfl, by omega, by omega,
    fun i ρ' => ∃ (ts : List Tie) (a b c d e : Option Md.W), ρ' = GrE k n v ts a b c d e ∧ (∀ t, t ∈ ts → TieOk n k t) ∧ ts.length ≤ 10 * i ∧ (1 ≤ i → ts ≠ []), ⟨[], _, _, _, _, _, rfl, (fun t ht => by cases ht), by simp, fun z => absurd z (by decide)⟩, ?_, ?_⟩)))
  · rintro i dd ρ' hd ⟨ts, a, b, c, d, e, rfl, hts, hl, hne⟩
    have hi : i < g := by have := (List.getElem?_eq_some_iff.mp hd).1; simpa [rangeD] using this
    refine ⟨_, rfl, ?_⟩
    refine ss_cons (s_par2 (i := 6) (j := 7) rfl (sc_law_growth).nd rfl rfl (by decide) rfl rfl (ec_listR2 rfl rfl B.list rfl B.range (Ev.then ev_int ⟨2, rfl, Ev.then (vd (i := 2) rfl rfl) ⟨n, rfl, by decide, by omega, rfl, Ev.then ev_int ⟨rfl, ?_⟩⟩⟩)))
    refine ss_cons (s_for pat_name rfl (pg_name (i := 8) (sc_law_growth).nd rfl (.inl rfl)) PassesOwn.never (ei_range1 rfl B.range (ec_callD hC h_law_draw (hr.mono (by decide)) rfl (EvA.then (eva_cons (vk (i := 0) rfl rfl) (eva_cons (ev_add (ev_len rfl B.len (vl (i := 6) rfl rfl) rfl) ev_int) eva_nil)) ⟨_, rfl, by omega, by simp; omega, fun u h0 h1 => ⟨u, rfl, by omega, by simp at h1; omega,
      fun j ρ' => ∃ (ts' : List Tie) (ls : List Nat) (at_ : Nat) (c8 c9 : Option Md.W), ρ' = GrE k n v ts' (some (.d dd)) (some (.lst true (ls.map dN))) (some (.d (dN at_))) c8 c9 ∧ (∀ t, t ∈ ts' → TieOk n k t) ∧ ts'.length ≤ 10 * i + j ∧ LeftOk n ls at_ ∧ ls.length + j = n - 2,
      ⟨ts, _, 0, _, _, rfl, hts, by omega, left_start hn, by simp⟩, ?_, ?_⟩⟩))))
    · rintro j d3 ρ' hd3 ⟨ts', ls, a', c8, c9, rfl, hts', hl', lo, hll⟩
      have hj : j < n - 2 := by
        have := (List.getElem?_eq_some_iff.mp hd3).1
        simp [rangeD] at this h1
        omega
      refine ⟨_, rfl, ?_⟩
      refine ss_cons (s_popAt (i := 6) (j := 9) (sc_law_growth).nd rfl (.inl rfl) rfl rfl (.inl rfl) (ec_callD hC h_law_draw (hr.mono (by decide)) rfl (EvA.then (eva_cons (vk (i := 0) rfl rfl) (eva_cons (ev_len rfl B.len (vl (i := 6) rfl rfl) rfl) eva_nil)) ⟨_, rfl, by simp; omega, by simp; omega, fun u2 h2 h3 => ?_⟩)) (by simp; omega))
      obtain ⟨jj, rfl⟩ := Int.eq_ofNat_of_zero_le h2
      have hjj : jj < ls.length := by simp at h3; omega
      have hx : ls[jj]? = some ls[jj] := List.getElem?_eq_getElem hjj
      generalize ls[jj] = x at hx
      obtain ⟨lo2, hxa⟩ := left_pop lo hx
      have hxn := lo.inn x (List.mem_of_getElem? hx)
      refine ⟨jj, dN x, rfl, by rw [List.getElem?_map, hx]; rfl, ?_⟩
      refine ss_cons (s_app (i := 4) rfl (.inl rfl) rfl (by rw [List.length_map]; omega) (ec_callD hC h_law_tie (hr.mono (by decide)) rfl (EvA.then (eva_cons (vk (i := 0) rfl rfl) (eva_cons (vd (i := 7) rfl rfl) (eva_cons (vd (i := 9) rfl rfl) (eva_cons (vd (i := 1) rfl rfl) eva_nil)))) ⟨a', x, k, rfl, hk, hk3, fun c hc => ?_⟩)))
      have mk : ∀ t : Tie, TieOk n k t → S1 G (bx P w K mg base N_law_growth "_law_growth" s_law_growth f cdv A outer s0 H E) (.Assign [.Name "_law_at" ⟨0, 0, 0, 0⟩] (.Name "_law_to" ⟨0, 0, 0, 0⟩) ⟨0, 0, 0, 0⟩) [] { nx := fun _ => True, rt := fun _ => True } → True := fun _ _ _ => trivial
      have o1 : TieOk n k (a', x, c) := ⟨lo.lt, hxn.2, fun z => hxa z.symm, hc⟩
      have o2 : TieOk n k (x, a', c) := ⟨hxn.2, lo.lt, hxa, hc⟩
      have le : (ls.eraseIdx jj).length + (j + 1) = n - 2 := by rw [List.length_eraseIdx, if_pos hjj]; omega
      have em : (ls.map dN).eraseIdx jj = (ls.eraseIdx jj).map dN := erase_map dN ls jj
      constructor
      · refine ⟨_, rfl, ss_one (s_set (i := 7) (sc_law_growth).nd rfl (.inl rfl) (Ev.then (vd (i := 9) rfl rfl) ⟨rfl, ts' ++ [(a', x, c)], ls.eraseIdx jj, x, some (.d d3), some (.d (dN x)), ?_, ties_more hts' o1, by simp; omega, lo2, le⟩))⟩
        unfold GrE; rw [em, List.map_append]; rfl
      · refine ⟨_, rfl, ss_one (s_set (i := 7) (sc_law_growth).nd rfl (.inl rfl) (Ev.then (vd (i := 9) rfl rfl) ⟨rfl, ts' ++ [(x, a', c)], ls.eraseIdx jj, x, some (.d d3), some (.d (dN x)), ?_, ties_more hts' o2, by simp; omega, lo2, le⟩))⟩
        unfold GrE; rw [em, List.map_append]; rfl
    · rintro ρ' ⟨ts', ls, a', c8, c9, rfl, hts', hl', lo, hll⟩
      refine ss_one (s_app (i := 4) rfl (.inl rfl) rfl (by rw [List.length_map]; omega) (ec_callD hC h_law_tie (hr.mono (by decide)) rfl (EvA.then (eva_cons (vk (i := 0) rfl rfl) (eva_cons (vd (i := 7) rfl rfl) (eva_cons ev_int (eva_cons (vd (i := 1) rfl rfl) eva_nil)))) ⟨a', 1, k, rfl, hk, hk3, fun c hc => ?_⟩)))
      have o1 : TieOk n k (a', 1, c) := ⟨lo.lt, by show 1 < n; omega, lo.ne, hc⟩
      have o2 : TieOk n k (1, a', c) := ⟨by show 1 < n; omega, lo.lt, fun z => lo.ne z.symm, hc⟩
      exact ⟨⟨_, rfl, ts' ++ [(a', 1, c)], _, _, _, _, _, by unfold GrE; rw [List.map_append]; rfl, ties_more hts' o1, by simp; omega, fun _ => by simp⟩, ⟨_, rfl, ts' ++ [(1, a', c)], _, _, _, _, _, by unfold GrE; rw [List.map_append]; rfl, ties_more hts' o2, by simp; omega, fun _ => by simp⟩⟩
  · rintro ρ' ⟨ts, a, b, c, d, e, rfl, hts, hl, hne⟩
    have hgl : (rangeD 0 ((g : Nat) : Int).toNat).length = g := by simp [rangeD]
    rw [hgl] at hl hne
    refine ss_cons (s_for pat_name rfl (pg_name (i := 5) (sc_law_growth).nd rfl (.inl rfl)) PassesOwn.never (ei_range1 rfl B.range (EC.to (Φ := fun w => ∃ u : Int, w = .d (.int u) ∧ 0 ≤ u ∧ u < 4) ?dr ?_)))
    case dr =>
      refine ec_if (EvT.then (et_gt (vd (i := 3) rfl rfl) ev_int) ⟨fun _ => ec_callD hC h_law_draw (hr.mono (by decide)) rfl (EvA.then (eva_cons (vk (i := 0) rfl rfl) (eva_cons ev_int eva_nil)) ⟨4, rfl, by decide, by decide, fun u h0 h1 => ⟨u, rfl, h0, h1⟩⟩), fun _ => Ev.then ev_int ⟨0, rfl, by decide, by decide⟩⟩)
    rintro w0 ⟨u, rfl, hu0, hu4⟩
    refine ⟨u, rfl, by omega, by omega, fun i ρ' => ∃ (ts : List Tie) (a : Option Md.W), ρ' = GrE k n v ts a b c d e ∧ (∀ t, t ∈ ts → TieOk n k t) ∧ ts.length ≤ 20 + i ∧ (v = 8 → ts ≠ []), ⟨ts, _, rfl, hts, by omega, fun z => hne (hg8 z)⟩, ?_, ?_⟩
    · rintro i dd ρ' hd ⟨ts, a, rfl, hts, hl, hne⟩
      have hi : i < 4 := by have := (List.getElem?_eq_some_iff.mp hd).1; simp [rangeD] at this; omega
      exact ⟨_, rfl, ss_one (s_app (i := 4) rfl (.inl rfl) rfl (by rw [List.length_map]; omega) (ec_callD hC h_law_further (hr.mono (by decide)) rfl (EvA.then (eva_cons (vk (i := 0) rfl rfl) (eva_cons (vd (i := 2) rfl rfl) (eva_cons (vd (i := 1) rfl rfl) eva_nil))) ⟨n, k, rfl, hn, hn7, hk, hk3, fun t ht => ⟨_, rfl, ts ++ [t], some (.d dd), by unfold GrE; rw [List.map_append]; rfl, ties_more hts ht, by simp; omega, fun _ => by simp⟩⟩)))⟩
    · rintro ρ' ⟨ts, a, rfl, hts, hl, hne⟩
      have hl9 : ts.length ≤ 24 := by
        have : (rangeD 0 u.toNat).length ≤ 3 := by simp [rangeD]; omega
        omega
      have fin : ∀ ts : List Tie, (∀ t, t ∈ ts → TieOk n k t) → SS G (bx P w K mg base N_law_growth "_law_growth" s_law_growth f cdv A outer s0 H E) ((defBody s_law_growth).drop 4) (GrE k n v ts a b c d e) { nx := fun _ => Φ (.d .non), rt := Φ } := fun ts hts => by
        refine ss_one (s_ret (ec_tup (ea_cons (Ev.then (vd (i := 2) rfl rfl) (ea_cons (ec_tuple rfl B.tuple (ec_sorted rfl B.sorted (ec_sliceTo (Ev.then (vl (i := 4) rfl rfl) ⟨_, _, rfl, Ev.then ev_int ⟨9, rfl, ts.take 9, ?_, ?_, small_ties hn7 hk3 fun t ht => hts t (List.mem_of_mem_take ht), fun ts' hp hs => ⟨_, rfl, ea_nil ⟨_, .cons (.cons .nil), by simp, ?_⟩⟩⟩⟩)))))))))
        · have : HT.sIx (ts.map dTie).length (ts.map dTie).length (some 9) = min 9 ts.length := by rw [show (9 : Int) = ((9 : Nat) : Int) from rfl, HT.sIx_nat, List.length_map]
          show some (List.take (HT.sIx (ts.map dTie).length (ts.map dTie).length (some 9)) (ts.map dTie)) = _
          rw [this, ← List.map_take]
          congr 2
          by_cases h : 9 ≤ ts.length
          · rw [Nat.min_eq_left h]
          · rw [Nat.min_eq_right (by omega), List.take_of_length_le (Nat.le_refl _), List.take_of_length_le (by omega)]
        · rw [List.length_take]; omega
        · exact hΦ ⟨n, ts'⟩ (web_made hn hn7 (fun t ht => hts t (List.mem_of_mem_take ht)) (by rw [List.length_take]; omega) hp hs) hn
      refine ss_cons (s_if (EvT.then (et_eqI (vd (i := 3) rfl rfl) ev_int) ⟨fun hb => ?_, fun hb => ss_nil (fin ts hts)⟩))
      have hv8 : v = 8 := by have := of_decide_eq_true hb; omega
      obtain ⟨t0, rest, rfl⟩ := List.exists_cons_of_ne_nil (hne hv8)
      refine ss_one (s_app (i := 4) rfl (.inl rfl) rfl (by rw [List.length_map]; omega) (Ev.then (ev_ix (vl (i := 4) rfl rfl) ev_int rfl (d := dTie t0) (atI_of (j := 0) rfl)) ⟨_, rfl, ?_⟩))
      have := fin (t0 :: rest ++ [t0]) (ties_more hts (hts t0 List.mem_cons_self))
      unfold GrE at this
      rw [List.map_append] at this
      exact this
end
end Md
end P8cPart
section P9Part
set_option Elab.async false
set_option linter.all false
set_option maxRecDepth 100000
set_option maxHeartbeats 2000000
/-! the law's own checks -/
namespace Md
open PySem L2
def sp_law_is_integer : Spec := fun ws Φ => ∃ i : Int, ws = [.d (.int i)] ∧ Φ (.d (.bl true))
def sp_law_are_integers : Spec := fun ws Φ => ∃ ns : List Int, ws = [.d (dInts ns)] ∧ ns.length ≤ 1000 ∧ Φ (.d (.bl true))
def sp_law_way_sum : Spec := fun ws Φ => ∃ (W : Web) (r : Row) (p q : Nat) (ns : List Nat) (x : Int), ws = [.d (dWeb W), .d (.tup (ns.map dN)), .d (dN p), .d (dN q), .lst false (r.map dOpt)] ∧ W.Ok r.length ∧ p < W.n ∧ WayTo W r p q ns x ∧ Φ (.d (.int x))
def sp_law_is_flat : Spec := fun ws Φ => ∃ (W : Web) (k : Nat) (st h : List Int), ws = [.d (dWeb W), .d (dInts h), .lst false (st.map Dat.int)] ∧ W.Ok k ∧ k ≤ st.length ∧ h.length = W.n ∧ Φ (.d (.bl (flatB W st h)))
theorem outs_none {α : Type} {xs : List α} {out : List Dat} (o : Outs (fun _ r => r = none) xs out) : out = [] := by
  induction o with
  | nil => rfl
  | yes h t ih => cases h
  | no h t ih => exact ih
/-- ones: all like one another -/
theorem outs_ones {α : Type} {p : α → Bool} {xs : List α} {out : List Dat} (o : Outs (fun x r => r = if p x then some (Dat.int 1) else none) xs out) : out = ((xs.filter p).map fun _ => (1 : Int)).map Dat.int := by
  rw [outs_filter (f := fun _ => Dat.int 1) o, List.map_map]; rfl
theorem ones_nil {α : Type} (xs : List α) (p : α → Bool) : PyData.eqv (.list (toPys (((xs.filter p).map fun _ => (1 : Int)).map Dat.int))) (.list []) = xs.all fun x => !p x := by
  rw [eqv_nil, List.length_map]
  induction xs with
  | nil => rfl
  | cons a t ih =>
    rw [List.all_cons]
    by_cases h : p a = true
    · rw [List.filter_cons_of_pos h, h]; simp
    · rw [List.filter_cons_of_neg h, ih]
      have : p a = false := by cases e : p a with | true => exact absurd e h | false => rfl
      rw [this]; simp
section
variable {P : Program} {w : World} {K : PySem.W.Frag} {mg : Str → Option Value} {base : Heap} {f : Addr} {fd : FuncData}
theorem ok_law_is_integer (F : Fun K "_law_is_integer" "_law_is_integer" s_law_is_integer f fd) (B : Bt mg) : FnOk P w K mg base CX0 1 f fd ["_law_thing"] (spD CP sp_law_is_integer) := by
  refine fnD F sc_law_is_integer (by decide) (fun ws Φ ⟨i, h, _⟩ => by rw [h]; rfl) fun cdv A outer s H E G ws Φ hC hr hS => ?_
  obtain ⟨i, rfl, hΦ⟩ := hS
  refine ss_one (s_ret ?_)
  refine Ev.then (ev_and2 (ev_isinst rfl B.isinstance rfl B.int (vd (i := 0) rfl rfl) rfl rfl) fun _ => ev_not (ev_isinst rfl B.isinstance rfl B.bool (vd (i := 0) rfl rfl) rfl rfl)) hΦ
theorem ok_law_are_integers (F : Fun K "_law_are_integers" "_law_are_integers" s_law_are_integers f fd) (B : Bt mg) (h_law_is_integer : HasFn P w K mg base "_law_is_integer" 1 (spD CP sp_law_is_integer)) : FnOk P w K mg base CX0 2 f fd ["_law_thing"] (spD CP sp_law_are_integers) := by
  refine fnD F sc_law_are_integers (by decide) (fun ws Φ ⟨i, h, _⟩ => by rw [h]; rfl) fun cdv A outer s H E G ws Φ hC hr hS => ?_
  obtain ⟨ns, rfl, hl, hΦ⟩ := hS
  have hu : (bx P w K mg base N_law_are_integers "_law_are_integers" s_law_are_integers f cdv A outer s H E).A.units + 64 < cLine := hr.units
  refine ss_one (s_ret (Ev.then (Ev.is (ev_and2 (q := true) (ev_isinst rfl B.isinstance rfl B.tuple (vd (i := 0) rfl rfl) rfl rfl) fun _ => ec_eqL hu ?_) rfl) hΦ))
  refine ec_lc (own := [("_law_it", 1)]) ns Dat.int (fun _ r => r = none) pat_name rfl (sc_law_are_integers).nd (blkOk_by (N := N_law_are_integers) (sc := defScope s_law_are_integers) (by decide +kernel)) (by simp) (by omega) (fun s H C cl fp => pg_name (i := 1) (sc_law_are_integers).nd rfl (.inl rfl))
    (ei_tup (Ev.then (vd (i := 0) rfl rfl) ⟨_, rfl, rfl⟩)) (fun t hmt => ⟨_, rfl, fun s H C cl fp => ets_one (EvT.then (evT_not (evT_val (ev_call0 (w := .d (.bl true)) h_law_is_integer (hr.mono (by decide)) rfl (eva_cons (vd (i := 1) rfl rfl) eva_nil) ⟨_, rfl, rfl, (fun z => nomatch z), rfl⟩))) ⟨fun z => (nomatch z), fun _ => rfl⟩)⟩) fun out ho => ?_
  have := outs_none ho
  subst this
  exact ⟨_, _, rfl, Ev.then (ev_lst eva_nil .nil) ⟨_, _, rfl, by decide, by decide, rfl⟩⟩
theorem ok_law_is_flat (F : Fun K "_law_is_flat" "_law_is_flat" s_law_is_flat f fd) (B : Bt mg) (h_law_are_integers : HasFn P w K mg base "_law_are_integers" 2 (spD CP sp_law_are_integers)) : FnOk P w K mg base CX0 3 f fd ["_law_web", "_law_heights_here", "_law_steps"] (spD CP sp_law_is_flat) := by
  refine fnD F sc_law_is_flat (by decide) (fun ws Φ ⟨i, l, p, q, h, _⟩ => by rw [h]; rfl) fun cdv A outer s0 H E G ws Φ hC hr hS => ?_
  obtain ⟨W, k, st, h, rfl, ok, hk, hl, hΦ⟩ := hS
  have hn := ok.small
  have hu : (bx P w K mg base N_law_is_flat "_law_is_flat" s_law_is_flat f cdv A outer s0 H E).A.units + 64 < cLine := hr.units
  refine ss_cons (s_ifF (EvT.is (evT_or2 (evT_not (evT_val (ev_call0 (w := .d (.bl true)) h_law_are_integers (hr.mono (by decide)) rfl (eva_cons (vd (i := 1) rfl rfl) eva_nil) ⟨h, rfl, by omega, rfl, (fun z => nomatch z), rfl⟩))) (fun _ => et_neI (ev_len rfl B.len (vd (i := 1) rfl rfl) rfl) (ev_ix (vd (i := 0) rfl rfl) ev_int rfl rfl))) ?_) (ss_nil ?_))
  · rw [List.length_map, hl]; simp
  refine ss_one (s_ret (ec_eqL hu ?_))
  refine ec_lc (own := [("_law_a", 3), ("_law_b", 4), ("_law_c", 5)]) W.ts dTie (fun t r => r = if decide (at0 st t.2.2 < absI (at0 h t.1 - at0 h t.2.1)) then some (Dat.int 1) else none) pat_three rfl (sc_law_is_flat).nd (blkOk_by (N := N_law_is_flat) (sc := defScope s_law_is_flat) (by decide +kernel)) (by simp) (Nat.le_trans ok.few (by decide))
    (fun s H C cl fp => pg_tup rfl (pgs_cons (pg_name (i := 3) (sc_law_is_flat).nd rfl (.inl rfl)) (pgs_cons (pg_name (i := 4) (sc_law_is_flat).nd rfl (.inl rfl)) (pgs_cons (pg_name (i := 5) (sc_law_is_flat).nd rfl (.inl rfl)) pgs_nil))))
    (ei_tup (Ev.then (ev_ix (vd (i := 0) rfl rfl) ev_int rfl rfl) ⟨_, rfl, rfl⟩)) (fun t ht => ⟨_, ⟨_, _, _, rfl, rfl⟩, fun s H C cl fp => ets_one (EvT.then (et_gt (ec_abs rfl B.abs (Ev.then (ev_sub (ev_ix (vd (i := 1) rfl rfl) (vd (i := 3) rfl rfl) rfl (at0_get ?h1)) (ev_ix (vd (i := 1) rfl rfl) (vd (i := 4) rfl rfl) rfl (at0_get ?h2))) ⟨_, rfl, rfl⟩)) (ev_ix (vl (i := 2) rfl rfl) (vd (i := 5) rfl rfl) rfl (at0_get ?h3))) ⟨fun hb s H C cl fp => Ev.then ev_int ⟨_, rfl, ?_⟩, fun hb => ?_⟩)⟩) fun out ho => ?_
  case h1 => have := (ok.ties t ht).1; omega
  case h2 => have := (ok.ties t ht).2.1; omega
  case h3 => have := (ok.ties t ht).2.2.2; omega
  · exact (if_pos hb).symm
  · exact (if_neg (by intro z; rw [show decide (at0 st t.2.2 < absI (at0 h t.1 - at0 h t.2.1)) = false from hb] at z; cases z)).symm
  · have := outs_ones (p := fun t : Tie => decide (at0 st t.2.2 < absI (at0 h t.1 - at0 h t.2.1))) ho
    subst this
    refine ⟨_, _, rfl, Ev.then (ev_lst eva_nil .nil) ⟨_, _, rfl, shaped_ints _, by decide, ?_⟩⟩
    have e : (W.ts.all fun x => !decide (at0 st x.2.2 < absI (at0 h x.1 - at0 h x.2.1))) = flatB W st h := by
      unfold flatB
      congr 1
      funext t
      by_cases h : at0 st t.2.2 < absI (at0 h t.1 - at0 h t.2.1)
      · rw [decide_eq_true h, decide_eq_false (by omega)]; rfl
      · rw [decide_eq_false h, decide_eq_true (by omega)]; rfl
    rw [← e, ← ones_nil] at hΦ
    exact hΦ
end
end Md
end P9Part
section P10Part
set_option Elab.async false
set_option linter.all false
set_option maxRecDepth 100000
set_option maxHeartbeats 2000000
/-! the law's own checks, on -/
namespace Md
open PySem L2
def sp_law_is_near : Spec := fun ws Φ => ∃ (s : Web) (b : List Web) (p q : Nat) (d : Int) (tabs : List (List Item)) (ns : List Nat) (rows : Nat → Row) (x : Int), ws = [.d (dGarden s b), .d (dN p), .d (dN q), .d (.int d), .d (.tup (tabs.map dTabW)), .d (.tup (ns.map dN))] ∧ GardenOk s b ∧ p < s.n ∧
  Tabs b rows tabs ∧ tabs.length ≤ 1000 ∧ WayTo s (rows tabs.length) p q ns x ∧ Φ (.d (.bl (decide (x ≤ d))))
def sp_law_is_over : Spec := fun ws Φ => ∃ (s : Web) (b : List Web) (p q : Nat) (d : Int) (tabs : List (List (List Int))) (h : List Int), ws = [.d (dGarden s b), .d (dN p), .d (dN q), .d (.int d), .d (.tup (tabs.map dTabI)), .d (dInts h)] ∧ GardenOk s b ∧ p < s.n ∧ q < s.n ∧
  tabs.length ≤ 1000 ∧ (∀ t, t ∈ tabs → TabForm b t) ∧ h.length = s.n ∧ Φ (.d (.bl (overB s b p q d tabs h)))
def sp_law_is_certificate : Spec := fun ws Φ => ∃ (s : Web) (b : List Web) (p q m : Nat) (d : Int) (th : Dat), ws = [.d (dGarden s b), .d (dN p), .d (dN q), .d (dN m), .d (.int d), .d th] ∧ GardenOk s b ∧ p < s.n ∧ q < s.n ∧ m ≤ 1000 ∧
  ((∃ (tabs : List (List Item)) (ns : List Nat) (rows : Nat → Row) (x : Int), th = dNear tabs ns ∧ tabs.length = m ∧ Tabs b rows tabs ∧ WayTo s (rows m) p q ns x ∧ Φ (.d (.bl (decide (x ≤ d))))) ∨
   (∃ (tabs : List (List (List Int))) (h : List Int), th = dOver tabs h ∧ tabs.length = m ∧ (∀ t, t ∈ tabs → TabForm b t) ∧ h.length = s.n ∧ Φ (.d (.bl (overB s b p q d tabs h)))))
section
variable {P : Program} {w : World} {K : PySem.W.Frag} {mg : Str → Option Value} {base : Heap} {f : Addr} {fd : FuncData}
theorem ok_law_way_sum (F : Fun K "_law_way_sum" "_law_way_sum" s_law_way_sum f fd) (B : Bt mg) (h_law_are_integers : HasFn P w K mg base "_law_are_integers" 2 (spD CP sp_law_are_integers)) : FnOk P w K mg base CX0 3 f fd ["_law_web", "_law_way", "_law_at", "_law_to", "_law_sizes"] (spD CP sp_law_way_sum) := by
  refine fnD F sc_law_way_sum (by decide) (fun ws Φ ⟨i, l, p, q, a, b, h, _⟩ => by rw [h]; rfl) fun cdv A outer s0 H E G ws Φ hC hr hS => ?_
  obtain ⟨W, r, p, q, ns, x, rfl, ok, hp, ⟨ms, wy, nd, la⟩, hΦ⟩ := hS
  have hns : ns.length ≤ 6 := WayTo.few ok hp ⟨ms, wy, nd, la⟩
  have en : (ns.map dN) = (ns.map fun v : Nat => (v : Int)).map Dat.int := by rw [List.map_map]; rfl
  refine ss_cons (s_par2 (i := 5) (j := 6) rfl (sc_law_way_sum).nd rfl rfl (by decide) rfl rfl (Ev.then (ev_lst (eva_cons (vd (i := 2) rfl rfl) eva_nil) (.cons .nil)) ⟨rfl, Ev.then ev_int ⟨rfl, ?_⟩⟩))
  refine ss_cons (s_ifF (EvT.is (evT_not (evT_val (ev_call0 (w := .d (.bl true)) h_law_are_integers (hr.mono (by decide)) rfl (eva_cons (vd (i := 1) rfl rfl) eva_nil) ⟨ns.map fun v : Nat => (v : Int), by rw [en]; rfl, by rw [List.length_map]; omega, rfl, (fun z => nomatch z), rfl⟩))) rfl) (ss_nil ?_))
  refine ss_cons (s_for pat_name rfl (pg_name (i := 7) (sc_law_way_sum).nd rfl (.inl rfl)) PassesOwn.never (ei_tup (Ev.then (vd (i := 1) rfl rfl) ⟨_, rfl,
    fun i ρ' => ∃ z v m1 m2 y a b c e, ρ' = [some (.d (dWeb W)), some (.d (.tup (ns.map dN))), some (.d (dN v)), some (.d (dN q)), some (.lst false (r.map dOpt)), some (.lst true ((p :: m1).map dN)), some (.d (.int z)), a, b, c, e] ∧ m1.getLastD p = v ∧ Wy W r v (ns.drop i) m2 y ∧ z + y = x ∧ m1 ++ m2 = ms,
    ⟨0, p, [], ms, x, _, _, _, _, rfl, rfl, wy, by omega, rfl⟩, ?_, ?_⟩)))
  · rintro i d ρ' hd ⟨z, v, m1, m2, y, a, b, c, e, rfl, hv, wy', hz, hm⟩
    rw [List.getElem?_map] at hd
    obtain ⟨j, hj, rfl⟩ : ∃ j, ns[i]? = some j ∧ d = dN j := by
      cases h : ns[i]? with
      | none => rw [h] at hd; cases hd
      | some j => rw [h] at hd; exact ⟨j, rfl, (Option.some.inj hd).symm⟩
    have hil : i < ns.length := (List.getElem?_eq_some_iff.mp hj).1
    have hdr : ns.drop i = j :: ns.drop (i + 1) := by
      rw [List.drop_eq_getElem_cons hil]
      congr 1
      exact (List.getElem?_eq_some_iff.mp hj).2
    rw [hdr] at wy'
    cases wy' with
    | @cons _ _ u t l y' _ m2' ht o hl wy2 =>
      obtain ⟨t1, t2, t3, t4⟩ := ok.ties t (List.mem_of_getElem? ht)
      have hjl : j < W.ts.length := (List.getElem?_eq_some_iff.mp ht).1
      have gr : atI (r.map dOpt) (t.2.2 : Int) = some (dOpt (r.at t.2.2)) := atI_row t4
      rw [hl] at gr
      have hml : m1.length ≤ 1000 := by
        have h1 := nodup_len nd fun u hu => by
          rcases List.mem_cons.mp hu with rfl | hu
          · exact hp
          · exact wy.inn ok u hu
        have := ok.small
        rw [← hm] at h1
        simp at h1
        omega
      refine ⟨_, rfl, ?_⟩
      refine ss_cons (s_ifF (EvT.is (evT_not (et_leLt ev_int (vd (i := 7) rfl rfl) (ev_len rfl B.len (ev_ix (vd (i := 0) rfl rfl) ev_int rfl rfl) rfl))) ?_) (ss_nil ?_))
      · rw [List.length_map, decide_eq_true (by omega : (0 : Int) ≤ (j : Int)), decide_eq_true (by omega : (j : Int) < (W.ts.length : Int))]; rfl
      refine ss_cons (s_pat pat_three (pg_tup rfl (pgs_cons (pg_name (i := 8) (sc_law_way_sum).nd rfl (.inl rfl)) (pgs_cons (pg_name (i := 9) (sc_law_way_sum).nd rfl (.inl rfl)) (pgs_cons (pg_name (i := 10) (sc_law_way_sum).nd rfl (.inl rfl)) pgs_nil)))) (Ev.then (ev_ix (ev_ix (vd (i := 0) rfl rfl) ev_int rfl rfl) (vd (i := 7) rfl rfl) rfl (atI_map (f := dTie) ht)) ⟨_, _, rfl, ⟨_, _, _, rfl, rfl⟩, ?_⟩))
      refine ss_cons (s_ifF (EvT.is (evT_or2 (et_notin2 (x := v) (vd (i := 2) rfl rfl) (vd (i := 8) rfl rfl) (vd (i := 9) rfl rfl)) (fun _ => et_isN (ev_ix (vl (i := 4) rfl rfl) (vd (i := 10) rfl rfl) rfl gr))) ?_) (ss_nil ?_))
      · have : v = t.1 ∨ v = t.2.1 := by rcases o with ⟨h1, _⟩ | ⟨h1, _⟩; exact .inl h1; exact .inr h1
        simp [this, dOpt, isNon]
      refine ss_cons (s_set (i := 2) (sc_law_way_sum).nd rfl (.inl rfl) (Ev.then (w := .d (dN u)) (ec_if (EvT.then (et_eqI (vd (i := 2) rfl rfl) (vd (i := 8) rfl rfl)) ⟨fun hb => Ev.is (vd (i := 9) rfl rfl) ?f1, fun hb => Ev.is (vd (i := 8) rfl rfl) ?f2⟩)) ⟨rfl, ?_⟩))
      case f1 =>
        have := of_decide_eq_true hb
        rcases o with ⟨h1, h2⟩ | ⟨h1, h2⟩
        · rw [h2]
        · exfalso; omega
      case f2 =>
        have := of_decide_eq_false hb
        rcases o with ⟨h1, h2⟩ | ⟨h1, h2⟩
        · exfalso; omega
        · rw [h2]
      have hun : u ∉ p :: m1 := by
        intro h
        rw [← hm, ← List.cons_append] at nd
        exact (List.nodup_append.mp nd).2.2 u h u List.mem_cons_self rfl
      refine ss_cons (s_ifF (et_inI op_in_seq rfl (Ev.then (vd (i := 2) rfl rfl) ⟨(u : Int), rfl, Ev.then (vl (i := 5) rfl rfl) ⟨(p :: m1).map fun v : Nat => (v : Int), by show some ((p :: m1).map dN) = _; rw [List.map_map]; rfl, ?_⟩⟩)) (ss_nil ?_))
      · refine decide_eq_false fun h => hun ?_
        obtain ⟨v', hv', e⟩ := List.mem_map.mp h
        have : v' = u := by omega
        rw [← this]; exact hv'
      refine ss_cons (s_app (i := 5) rfl (.inl rfl) rfl (by simp; omega) (Ev.then (vd (i := 2) rfl rfl) ⟨_, rfl, ?_⟩))
      refine ss_one (s_set (i := 6) (sc_law_way_sum).nd rfl (.inl rfl) (Ev.then (ev_add (vd (i := 6) rfl rfl) (ev_ix (vl (i := 4) rfl rfl) (vd (i := 10) rfl rfl) rfl gr)) ⟨rfl, z + l, u, m1 ++ [u], m2', y', some (.d (dN j)), some (.d (dN t.1)), some (.d (dN t.2.1)), some (.d (dN t.2.2)), ?_, by simp [List.getLastD_eq_getLast?], wy2, by omega, by rw [← hm]; simp⟩))
      have : (p :: (m1 ++ [u])).map dN = (p :: m1).map dN ++ [dN u] := by simp
      rw [this]
      rfl
  · rintro ρ' ⟨z, v, m1, m2, y, a, b, c, e, rfl, hv, wy', hz, hm⟩
    rw [List.length_map, List.drop_length] at wy'
    cases wy'
    have hm1 : m1 = ms := by rw [← hm]; simp
    subst hm1
    have hvq : v = q := by rw [← hv]; exact la
    subst hvq
    have hzx : z = x := by omega
    subst hzx
    refine ss_one (s_ret (ec_if (EvT.then (EvT.is (et_eqI (vd (i := 2) rfl rfl) (vd (i := 3) rfl rfl)) (u := true) (by simp)) ⟨fun _ => Ev.then (vd (i := 6) rfl rfl) hΦ, fun z => nomatch z⟩)))
theorem ok_law_is_near (F : Fun K "_law_is_near" "_law_is_near" s_law_is_near f fd) (B : Bt mg) (h_law_way_sum : HasFn P w K mg base "_law_way_sum" 3 (spD CP sp_law_way_sum)) : FnOk P w K mg base CX0 4 f fd ["_law_garden", "_law_p", "_law_q", "_law_d", "_law_tables", "_law_way"] (spD CP sp_law_is_near) := by
  refine fnD F sc_law_is_near (by decide) (fun ws Φ ⟨i, l, p, q, m, d, ns, rows, x, h, _⟩ => by rw [h]; rfl) fun cdv A outer s0 H E G ws Φ hC hr hS => ?_
  obtain ⟨s, b, p, q, d, tabs, ns, rows, x, rfl, ok, hp, T, hlen, hw, hΦ⟩ := hS
  have h3 := ok.book.three
  have h1 := ok.book.one
  have hu : (bx P w K mg base N_law_is_near "_law_is_near" s_law_is_near f cdv A outer s0 H E).A.units + 64 < cLine := hr.units
  refine ss_cons (s_set (i := 6) (sc_law_is_near).nd rfl (.inr rfl) (ec_repL (Ev.then (ev_lst (eva_cons ev_int eva_nil) (.cons .nil)) ⟨_, _, rfl, Ev.then (ev_len rfl B.len (ev_ix (vd (i := 0) rfl rfl) ev_int rfl rfl) rfl) ⟨_, rfl, by omega, by rw [List.length_map]; omega, rfl, ?_⟩⟩)))
  rw [List.length_map, Int.toNat_natCast, row0_rep]
  refine ss_cons (s_for pat_name rfl (pg_name (i := 7) (sc_law_is_near).nd rfl (.inl rfl)) PassesOwn.never (ei_tup (Ev.then (vd (i := 4) rfl rfl) ⟨_, rfl,
    fun i ρ' => ∃ c7 c8, ρ' = [some (.d (dGarden s b)), some (.d (dN p)), some (.d (dN q)), some (.d (.int d)), some (.d (.tup (tabs.map dTabW))), some (.d (.tup (ns.map dN))), some (.lst true ((rows i).map dOpt)), c7, c8, none, none, none, none],
    ⟨_, _, by rw [T.first]; rfl⟩, ?_, ?_⟩)))
  · rintro i dd ρ' hd ⟨c9, c10, rfl⟩
    rw [List.getElem?_map] at hd
    obtain ⟨tab, ht, rfl⟩ : ∃ tab, tabs[i]? = some tab ∧ dd = dTabW tab := by
      cases h : tabs[i]? with
      | none => rw [h] at hd; cases hd
      | some j => rw [h] at hd; exact ⟨j, rfl, (Option.some.inj hd).symm⟩
    have hil : i < tabs.length := (List.getElem?_eq_some_iff.mp ht).1
    have tb := T.step i tab ht
    refine ⟨_, rfl, ?_⟩
    refine ss_cons (s_ifF (EvT.is (evT_or2 (evT_not (evT_val (ev_isinst rfl B.isinstance rfl B.tuple (vd (i := 7) rfl rfl) rfl rfl))) (fun _ => et_neI (ev_len rfl B.len (vd (i := 7) rfl rfl) rfl) (ev_len rfl B.len (ev_ix (vd (i := 0) rfl rfl) ev_int rfl rfl) rfl))) ?_) (ss_nil ?_))
    · rw [List.length_map, List.length_map, tb.len]; simp
    refine ss_cons (s_lc (i := 8) (own := [("_law_growth_here", 10), ("_law_it", 11)]) (List.range b.length) (fun c => Dat.tup [dWeb (bAt b c), dItem (tAt tab c)]) (fun c r => r = some (dOpt ((rows (i + 1)).at c))) pat_two rfl (sc_law_is_near).nd rfl rfl rfl (blkOk_by (N := N_law_is_near) (sc := defScope s_law_is_near) (by decide +kernel)) (by simp) (by simp; omega)
      (fun s H C cl fp => pg_tup rfl (pgs_cons (pg_name (i := 10) (sc_law_is_near).nd rfl (.inl rfl)) (pgs_cons (pg_name (i := 11) (sc_law_is_near).nd rfl (.inl rfl)) pgs_nil)))
      (ei_zipT rfl B.zip (Ev.then (ev_ix (vd (i := 0) rfl rfl) ev_int rfl rfl) ⟨_, rfl, Ev.then (vd (i := 7) rfl rfl) ⟨_, rfl, by rw [List.length_map, List.length_map, tb.len], zip_enc _ _ tb.len.symm⟩⟩)) (fun c hc => ⟨_, ⟨_, _, rfl, rfl⟩, fun s H C cl fp => ets_nil ⟨fun _ s H C cl fp => ?_, fun e => nomatch e⟩⟩) fun out ho => ?_)
    · have hcb : c < b.length := List.mem_range.mp hc
      have gW := bAt_get hcb
      have gT := tAt_get (t := tab) (by rw [tb.len]; exact hcb)
      refine ec_if (EvT.then (et_isN (vd (i := 11) rfl rfl)) ⟨fun hb => ?_, fun hb => ?_⟩)
      · cases e : tAt tab c with
        | none =>
          rw [e] at gT
          refine Ev.then ev_non ⟨_, rfl, ?_⟩
          rw [tb.non c _ gW gT]; rfl
        | some ns => rw [e] at hb; cases hb
      · cases e : tAt tab c with
        | none => rw [e] at hb; cases hb
        | some ns' =>
          rw [e] at gT
          obtain ⟨y, hy, wy⟩ := tb.way c _ ns' gW gT
          obtain ⟨gok, g2⟩ := ok.book.each (bAt b c) (List.mem_of_getElem? gW)
          refine Ev.then (w := .d (.int y)) (ev_call0 h_law_way_sum (hr.mono (by decide)) rfl (eva_cons (vd (i := 10) rfl rfl) (eva_cons (vd (i := 11) rfl rfl) (eva_cons ev_int (eva_cons ev_int (eva_cons (vl (i := 6) rfl rfl) eva_nil))))) ⟨bAt b c, rows i, 0, 1, ns', y, rfl, by rw [T.len i (by omega)]; exact gok, by omega, wy, rfl, (fun z => nomatch z), rfl⟩) ⟨_, rfl, ?_⟩
          rw [hy]; rfl
    · rw [outs_map (f := fun c => dOpt ((rows (i + 1)).at c)) ho, ← row_list tb.len']
      refine ss_cons (s_ifF (ET.frz 8 (et_neL hu ?_)) (ss_nil ?_))
      · refine ec_lc (own := [("_law_it", 11), ("_law_size", 12)]) (List.range tab.length) (fun c => Dat.tup [dItem (tAt tab c), dOpt ((rows (i + 1)).at c)]) (fun c r => r = none) pat_two rfl (sc_law_is_near).nd (blkOk_by (N := N_law_is_near) (sc := defScope s_law_is_near) (by decide +kernel)) (by simp) (by rw [List.length_range, tb.len]; omega)
          (fun s H C cl fp => pg_tup rfl (pgs_cons (pg_name (i := 11) (sc_law_is_near).nd rfl (.inl rfl)) (pgs_cons (pg_name (i := 12) (sc_law_is_near).nd rfl (.inl rfl)) pgs_nil)))
          (ei_zipTV (i := 8) rfl B.zip rfl (.inl rfl) rfl (Ev.then (vd (i := 7) rfl rfl) ⟨_, rfl, by rw [List.length_map, List.length_map, tb.len, tb.len'], zip_enc _ none (by rw [tb.len, tb.len'])⟩)) (fun c hc => ⟨_, ⟨_, _, rfl, rfl⟩, fun s H C cl fp => ets_one (EvT.then (b := false) (EvT.is (evT_and2 (et_notN (vd (i := 11) rfl rfl)) (fun _ => et_isN (vd (i := 12) rfl rfl))) ?_) ⟨fun z => (nomatch z), fun _ => rfl⟩)⟩) fun out ho => ?_
        · have hcb : c < b.length := by have := List.mem_range.mp hc; rw [tb.len] at this; exact this
          have gW := bAt_get hcb
          have gT := tAt_get (t := tab) (by rw [tb.len]; exact hcb)
          cases e : tAt tab c with
          | none => rfl
          | some ns' =>
            rw [e] at gT
            obtain ⟨y, hy, wy⟩ := tb.way c _ ns' gW gT
            rw [hy]; rfl
        · have := outs_none ho
          subst this
          exact ⟨_, _, rfl, Ev.then (ev_lst eva_nil .nil) ⟨_, _, rfl, by decide, by decide, rfl⟩⟩
      · refine ss_one (s_move (i := 6) (j := 8) (sc_law_is_near).nd rfl (.inr rfl) rfl (.inl rfl) (by decide) rfl ?_)
        exact ⟨_, _, rfl⟩
  · rintro ρ' ⟨c9, c10, rfl⟩
    rw [List.length_map]
    refine ss_cons (s_set (i := 9) (sc_law_is_near).nd rfl (.inl rfl) (Ev.then (w := .d (.int x)) (ev_call0 h_law_way_sum (hr.mono (by decide)) rfl (eva_cons (ev_ix (vd (i := 0) rfl rfl) ev_int rfl rfl) (eva_cons (vd (i := 5) rfl rfl) (eva_cons (vd (i := 1) rfl rfl) (eva_cons (vd (i := 2) rfl rfl) (eva_cons (vl (i := 6) rfl rfl) eva_nil))))) ⟨s, rows tabs.length, p, q, ns, x, rfl, by rw [T.len _ (Nat.le_refl _)]; exact ok.start, hp, hw, rfl, (fun z => nomatch z), rfl⟩) ⟨rfl, ?_⟩))
    refine ss_one (s_ret (Ev.then (ev_and2 (ev_notN (vd (i := 9) rfl rfl)) (fun _ => ev_le (vd (i := 9) rfl rfl) (vd (i := 3) rfl rfl))) ?_))
    show Φ (.d (.bl (true && decide (x ≤ d))))
    rw [Bool.true_and]
    exact hΦ
theorem ok_law_is_over (F : Fun K "_law_is_over" "_law_is_over" s_law_is_over f fd) (B : Bt mg) (h_law_is_flat : HasFn P w K mg base "_law_is_flat" 3 (spD CP sp_law_is_flat)) : FnOk P w K mg base CX0 4 f fd ["_law_garden", "_law_p", "_law_q", "_law_d", "_law_tables", "_law_heights_here"] (spD CP sp_law_is_over) := by
  refine fnD F sc_law_is_over (by decide) (fun ws Φ ⟨i, l, p, q, m, d, ns, h, _⟩ => by rw [h]; rfl) fun cdv A outer s0 H E G ws Φ hC hr hS => ?_
  obtain ⟨s, b, p, q, d, tabs, h, rfl, ok, hp, hq, hlen, hform, hhl, hΦ⟩ := hS
  have h3 := ok.book.three
  have h1 := ok.book.one
  refine ss_cons (s_set (i := 6) (sc_law_is_over).nd rfl (.inl rfl) (ec_repL (Ev.then (ev_lst (eva_cons ev_int eva_nil) (.cons .nil)) ⟨_, _, rfl, Ev.then (ev_len rfl B.len (ev_ix (vd (i := 0) rfl rfl) ev_int rfl rfl) rfl) ⟨_, rfl, by omega, by rw [List.length_map]; omega, rfl, ?_⟩⟩)))
  have e1 : List.replicate b.length (Dat.int 1) = (b.map fun _ => (1 : Int)).map Dat.int := by
    rw [row0_rep]; unfold ends; rw [List.map_map, List.map_map]; rfl
  rw [List.length_map, Int.toNat_natCast, e1]
  refine ss_cons (s_for pat_name rfl (pg_name (i := 7) (sc_law_is_over).nd rfl (.inl rfl)) PassesOwn.never (ei_tup (Ev.then (vd (i := 4) rfl rfl) ⟨_, rfl,
    fun i ρ' => ∃ st c7 c8 c9, ρ' = [some (.d (dGarden s b)), some (.d (dN p)), some (.d (dN q)), some (.d (.int d)), some (.d (.tup (tabs.map dTabI))), some (.d (dInts h)), some (.lst true (st.map Dat.int)), c7, c8, c9] ∧ st.length = b.length ∧ ovRun b (b.map fun _ => 1) tabs = ovRun b st (tabs.drop i),
    ⟨_, _, _, _, rfl, by simp, rfl⟩, ?_, ?_⟩)))
  · rintro i dd ρ' hd ⟨st, c9, c10, c11, rfl, hst, hrun⟩
    rw [List.getElem?_map] at hd
    obtain ⟨tab, ht, rfl⟩ : ∃ tab, tabs[i]? = some tab ∧ dd = dTabI tab := by
      cases h : tabs[i]? with
      | none => rw [h] at hd; cases hd
      | some j => rw [h] at hd; exact ⟨j, rfl, (Option.some.inj hd).symm⟩
    have hil : i < tabs.length := (List.getElem?_eq_some_iff.mp ht).1
    obtain ⟨tl, tf⟩ := hform tab (List.mem_of_getElem? ht)
    have hdr : tabs.drop i = tab :: tabs.drop (i + 1) := by
      rw [List.drop_eq_getElem_cons hil]
      congr 1
      exact (List.getElem?_eq_some_iff.mp ht).2
    rw [hdr] at hrun
    have hrun2 : ovRun b (b.map fun _ => 1) tabs = if ovOk b st tab then ovRun b (ovSt tab) (tabs.drop (i + 1)) else none := hrun
    have hlen2 : ∀ c, c < b.length → (hAt tab c).length = (bAt b c).n := fun c hc => tf c _ _ (bAt_get hc) (hAt_get (by omega))
    refine ⟨_, rfl, ?_⟩
    refine ss_cons (s_ifF (EvT.is (evT_or2 (evT_not (evT_val (ev_isinst rfl B.isinstance rfl B.tuple (vd (i := 7) rfl rfl) rfl rfl))) (fun _ => et_neI (ev_len rfl B.len (vd (i := 7) rfl rfl) rfl) (ev_len rfl B.len (ev_ix (vd (i := 0) rfl rfl) ev_int rfl rfl) rfl))) ?_) (ss_nil ?_))
    · rw [List.length_map, List.length_map, tl]; simp
    refine ss_cons (s_for pat_two rfl (pg_tup rfl (pgs_cons (pg_name (i := 8) (sc_law_is_over).nd rfl (.inl rfl)) (pgs_cons (pg_name (i := 9) (sc_law_is_over).nd rfl (.inl rfl)) pgs_nil))) PassesOwn.never
      (ei_zipT rfl B.zip (Ev.then (ev_ix (vd (i := 0) rfl rfl) ev_int rfl rfl) ⟨_, rfl, Ev.then (vd (i := 7) rfl rfl) ⟨_, rfl, by rw [List.length_map, List.length_map, tl],
        fun j ρ' => ∃ c10 c11, ρ' = [some (.d (dGarden s b)), some (.d (dN p)), some (.d (dN q)), some (.d (.int d)), some (.d (.tup (tabs.map dTabI))), some (.d (dInts h)), some (.lst true (st.map Dat.int)), some (.d (dTabI tab)), c10, c11] ∧ ∀ c, c < j → ovIt st (bAt b c) (hAt tab c) = true,
        ⟨_, _, rfl, fun c hc => absurd hc (Nat.not_lt_zero c)⟩, ?_, ?_⟩⟩)))
    · rintro c d2 ρ' hd2 ⟨c10, c11, rfl, hall⟩
      rw [zip_enc ⟨0, []⟩ [] tl.symm, List.getElem?_map] at hd2
      obtain ⟨hc, rfl⟩ : c < b.length ∧ d2 = Dat.tup [dWeb (bAt b c), dInts (hAt tab c)] := by
        by_cases hc : c < b.length
        · rw [List.getElem?_range hc] at hd2
          exact ⟨hc, (Option.some.inj hd2).symm⟩
        · rw [List.getElem?_eq_none (by simp; omega)] at hd2; cases hd2
      obtain ⟨gok, g2⟩ := ok.book.each (bAt b c) (List.mem_of_getElem? (bAt_get hc))
      have hl2 := hlen2 c hc
      refine ⟨_, ⟨_, _, rfl, rfl⟩, ?_⟩
      refine ss_one (s_if (EvT.then (b := !ovIt st (bAt b c) (hAt tab c)) (EvT.is (evT_or3 (evT_not (evT_val (ev_call0 (w := .d (.bl (flatB (bAt b c) st (hAt tab c)))) h_law_is_flat (hr.mono (by decide)) rfl (eva_cons (vd (i := 8) rfl rfl) (eva_cons (vd (i := 9) rfl rfl) (eva_cons (vl (i := 6) rfl rfl) eva_nil))) ⟨bAt b c, _, st, hAt tab c, rfl, gok, by omega, hl2, rfl, (fun z => nomatch z), rfl⟩)))
        (fun _ => et_neI (ev_ix (vd (i := 9) rfl rfl) ev_int rfl (at0_get (i := 0) (by omega))) ev_int) (fun _ _ => et_lt (ev_ix (vd (i := 9) rfl rfl) ev_int rfl (at0_get (i := 1) (by omega))) ev_int)) ?tt) ⟨fun hb => ?_, fun hb => ?_⟩))
      case tt =>
        unfold ovIt
        cases flatB (bAt b c) st (hAt tab c) <;> simp
        have hd : decide (at0 (hAt tab c) 1 < 0) = !decide (0 ≤ at0 (hAt tab c) 1) := by
          by_cases h1 : 0 ≤ at0 (hAt tab c) 1
          · rw [decide_eq_true h1, decide_eq_false (by omega)]; rfl
          · rw [decide_eq_false h1, decide_eq_true (by omega)]; rfl
        by_cases h0 : at0 (hAt tab c) 0 = 0
        · simp [h0, hd]
        · simp [h0]
      · refine ss_one (s_ret (Ev.then ev_bl ?_))
        have hno : ovOk b st tab = false := by
          cases e : ovOk b st tab with
          | false => rfl
          | true =>
            have := (ovOk_iff tl).mp e c hc
            rw [this] at hb; cases hb
        have : overB s b p q d tabs h = false := by
          unfold overB
          rw [hrun2, hno]
          rfl
        rw [this] at hΦ
        exact hΦ
      · refine ss_nil ⟨_, _, rfl, fun c' hc' => ?_⟩
        by_cases e : c' = c
        · subst e
          cases e2 : ovIt st (bAt b c') (hAt tab c') with
          | true => rfl
          | false => rw [e2] at hb; cases hb
        · exact hall c' (by omega)
    · rintro ρ' ⟨c10, c11, rfl, hall⟩
      have hallow : ovOk b st tab = true := (ovOk_iff tl).mpr fun c hc => hall c (by rw [zipD_len, List.length_map, List.length_map]; omega)
      rw [hallow, if_pos rfl] at hrun2
      refine ss_one (s_lc (i := 6) (own := [("_law_it", 9)]) tab dInts (fun h r => r = some (.int (at0 h 1))) pat_name rfl (sc_law_is_over).nd rfl rfl rfl (blkOk_by (N := N_law_is_over) (sc := defScope s_law_is_over) (by decide +kernel)) (by simp) (by omega) (fun s H C cl fp => pg_name (i := 9) (sc_law_is_over).nd rfl (.inl rfl))
        (ei_tup (Ev.then (vd (i := 7) rfl rfl) ⟨_, rfl, rfl⟩)) (fun hh hm => ⟨_, rfl, fun s H C cl fp => ets_nil ⟨fun _ s H C cl fp => ?_, fun e => nomatch e⟩⟩) fun out ho => ?_)
      · obtain ⟨c, hc⟩ := List.getElem?_of_mem hm
        have hcb : c < b.length := by have := (List.getElem?_eq_some_iff.mp hc).1; omega
        have e := hAt_get (t := tab) (c := c) (by omega)
        rw [hc] at e
        have hl2 := hlen2 c hcb
        rw [← Option.some.inj e] at hl2
        have := (ok.book.each (bAt b c) (List.mem_of_getElem? (bAt_get hcb))).2
        exact Ev.then (ev_ix (vd (i := 9) rfl rfl) ev_int rfl (at0_get (i := 1) (by omega))) ⟨_, rfl, rfl⟩
      · rw [outs_map (f := fun h => Dat.int (at0 h 1)) ho]
        exact ⟨ovSt tab, _, _, _, by unfold ovSt; rw [List.map_map]; rfl, by unfold ovSt; rw [List.length_map]; exact tl, hrun2⟩
  · rintro ρ' ⟨st, c9, c10, c11, rfl, hst, hrun⟩
    rw [List.length_map, List.drop_length] at hrun
    refine ss_one (s_ret (Ev.then (ev_and3 (ev_call0 (w := .d (.bl (flatB s st h))) h_law_is_flat (hr.mono (by decide)) rfl (eva_cons (ev_ix (vd (i := 0) rfl rfl) ev_int rfl rfl) (eva_cons (vd (i := 5) rfl rfl) (eva_cons (vl (i := 6) rfl rfl) eva_nil))) ⟨s, _, st, h, rfl, ok.start, by omega, hhl, rfl, (fun z => nomatch z), rfl⟩)
      (fun _ => ev_eqI (ev_ix (vd (i := 5) rfl rfl) (vd (i := 1) rfl rfl) rfl (at0_get (by omega))) ev_int) (fun _ _ => ev_gt (ev_ix (vd (i := 5) rfl rfl) (vd (i := 2) rfl rfl) rfl (at0_get (by omega))) (vd (i := 3) rfl rfl))) ?_))
    have : overB s b p q d tabs h = (flatB s st h && (decide (at0 h p = 0) && decide (at0 h q > d))) := by
      unfold overB
      rw [hrun]
      rfl
    rw [← this]
    exact hΦ
theorem ok_law_is_certificate (F : Fun K "_law_is_certificate" "_law_is_certificate" s_law_is_certificate f fd) (B : Bt mg) (h_law_is_near : HasFn P w K mg base "_law_is_near" 4 (spD CP sp_law_is_near)) (h_law_is_over : HasFn P w K mg base "_law_is_over" 4 (spD CP sp_law_is_over)) :
    FnOk P w K mg base CX0 5 f fd ["_law_garden", "_law_p", "_law_q", "_law_n", "_law_d", "_law_thing"] (spD CP sp_law_is_certificate) := by
  refine fnD F sc_law_is_certificate (by decide) (fun ws Φ ⟨i, l, p, q, m, d, th, h, _⟩ => by rw [h]; rfl) fun cdv A outer s0 H E G ws Φ hC hr hS => ?_
  obtain ⟨s, b, p, q, m, d, th, rfl, ok, hp, hq, hm, hS⟩ := hS
  rcases hS with ⟨tabs, ns, rows, x, rfl, hl, T, hw, hΦ⟩ | ⟨tabs, h, rfl, hl, hform, hhl, hΦ⟩
  · refine ss_cons (s_ifF (EvT.is (evT_or4 (evT_not (evT_val (ev_isinst rfl B.isinstance rfl B.tuple (vd (i := 5) rfl rfl) rfl rfl))) (fun _ => (et_neI (ev_len rfl B.len (vd (i := 5) rfl rfl) rfl) ev_int)) (fun _ _ => (evT_not (evT_val (ev_isinst rfl B.isinstance rfl B.tuple (ev_ix (vd (i := 5) rfl rfl) ev_int rfl rfl) rfl rfl)))) (fun _ _ _ => (et_neI (ev_len rfl B.len (ev_ix (vd (i := 5) rfl rfl) ev_int rfl rfl) rfl) (vd (i := 3) rfl rfl)))) ?_) (ss_nil ?_))
    · rw [List.length_map, hl]; simp
    refine ss_cons (s_ifF (EvT.is (evT_or2 (q := false) (evT_not (evT_val (ev_isinst rfl B.isinstance rfl B.str (ev_ix (vd (i := 5) rfl rfl) ev_int rfl rfl) rfl rfl))) (fun _ => et_inS op_notIn_seq rfl (Ev.then (ev_ix (vd (i := 5) rfl rfl) ev_int rfl rfl) ⟨_, rfl, Ev.then (ev_tup (eva_cons ev_str (eva_cons ev_str eva_nil)) (.cons (.cons .nil))) ⟨["near", "over"], rfl, by simp⟩⟩))) rfl) (ss_nil ?_))
    refine ss_cons (s_ifT (EvT.is (et_eqS (ev_ix (vd (i := 5) rfl rfl) ev_int rfl rfl) ev_str) (by decide)) (ss_one (s_ret ?_)))
    exact Ev.then (ev_call0 (w := .d (.bl (decide (x ≤ d)))) h_law_is_near (hr.mono (by decide)) rfl (eva_cons (vd (i := 0) rfl rfl) (eva_cons (vd (i := 1) rfl rfl) (eva_cons (vd (i := 2) rfl rfl) (eva_cons (vd (i := 4) rfl rfl) (eva_cons (ev_ix (vd (i := 5) rfl rfl) ev_int rfl rfl) (eva_cons (ev_ix (vd (i := 5) rfl rfl) ev_int rfl rfl) eva_nil)))))) ⟨s, b, p, q, d, tabs, ns, rows, x, rfl, ok, hp, T, by omega, by rw [hl]; exact hw, rfl, (fun z => nomatch z), rfl⟩) hΦ
  · refine ss_cons (s_ifF (EvT.is (evT_or4 (evT_not (evT_val (ev_isinst rfl B.isinstance rfl B.tuple (vd (i := 5) rfl rfl) rfl rfl))) (fun _ => (et_neI (ev_len rfl B.len (vd (i := 5) rfl rfl) rfl) ev_int)) (fun _ _ => (evT_not (evT_val (ev_isinst rfl B.isinstance rfl B.tuple (ev_ix (vd (i := 5) rfl rfl) ev_int rfl rfl) rfl rfl)))) (fun _ _ _ => (et_neI (ev_len rfl B.len (ev_ix (vd (i := 5) rfl rfl) ev_int rfl rfl) rfl) (vd (i := 3) rfl rfl)))) ?_) (ss_nil ?_))
    · rw [List.length_map, hl]; simp
    refine ss_cons (s_ifF (EvT.is (evT_or2 (q := false) (evT_not (evT_val (ev_isinst rfl B.isinstance rfl B.str (ev_ix (vd (i := 5) rfl rfl) ev_int rfl rfl) rfl rfl))) (fun _ => et_inS op_notIn_seq rfl (Ev.then (ev_ix (vd (i := 5) rfl rfl) ev_int rfl rfl) ⟨_, rfl, Ev.then (ev_tup (eva_cons ev_str (eva_cons ev_str eva_nil)) (.cons (.cons .nil))) ⟨["near", "over"], rfl, by simp⟩⟩))) rfl) (ss_nil ?_))
    refine ss_cons (s_ifF (EvT.is (et_eqS (ev_ix (vd (i := 5) rfl rfl) ev_int rfl rfl) ev_str) (by decide)) (ss_nil (ss_one (s_ret ?_))))
    exact Ev.then (ev_call0 (w := .d (.bl (overB s b p q d tabs h))) h_law_is_over (hr.mono (by decide)) rfl (eva_cons (vd (i := 0) rfl rfl) (eva_cons (vd (i := 1) rfl rfl) (eva_cons (vd (i := 2) rfl rfl) (eva_cons (vd (i := 4) rfl rfl) (eva_cons (ev_ix (vd (i := 5) rfl rfl) ev_int rfl rfl) (eva_cons (ev_ix (vd (i := 5) rfl rfl) ev_int rfl rfl) eva_nil)))))) ⟨s, b, p, q, d, tabs, h, rfl, ok, hp, hq, by omega, hform, hhl, rfl, (fun z => nomatch z), rfl⟩) hΦ
end
end Md
end P10Part
section Mm5Part
set_option Elab.async false
set_option linter.all false
set_option maxRecDepth 100000
set_option maxHeartbeats 2000000
/-! Sums by rounds. -/
namespace Md
abbrev Sf := Nat → Option Int
structure Sm (es : List Edge) (p n : Nat) (f : Sf) : Prop where
  walk : ∀ v x, f v = some x → Walk es p v x
  zero : ∃ z, f p = some z ∧ z ≤ 0
  inn : ∀ v x, f v = some x → v < n
def Leq (f g : Sf) : Prop := ∀ v y, g v = some y → ∃ z, f v = some z ∧ z ≤ y
theorem Leq.refl (f : Sf) : Leq f f := fun v y h => ⟨y, h, Int.le_refl _⟩
theorem Leq.trans {f g h : Sf} (a : Leq f g) (b : Leq g h) : Leq f h := fun v y e => by
  obtain ⟨z, h1, h2⟩ := b v y e
  obtain ⟨w, h3, h4⟩ := a v z h1
  exact ⟨w, h3, by omega⟩
def setF (f : Sf) (v : Nat) (x : Int) : Sf := fun u => if u = v then some x else f u
def sf0 (p : Nat) : Sf := fun u => if u = p then some 0 else none
theorem sm_start {es : List Edge} {p n : Nat} (hp : p < n) : Sm es p n (sf0 p) := by
  have h0 : ∀ v x, sf0 p v = some x → v = p ∧ x = 0 := fun v x h => by
    unfold sf0 at h
    by_cases e : v = p
    · rw [if_pos e] at h; cases h; exact ⟨e, rfl⟩
    · rw [if_neg e] at h; cases h
  refine ⟨fun v x h => ?_, ⟨0, by simp [sf0], Int.le_refl _⟩, fun v x h => by rw [(h0 v x h).1]; exact hp⟩
  obtain ⟨rfl, rfl⟩ := h0 v x h; exact .nil
theorem setF_leq {f : Sf} {v : Nat} {x : Int} (h : f v = none ∨ ∃ y, f v = some y ∧ x < y) : Leq (setF f v x) f := fun u y e => by
  unfold setF
  by_cases hu : u = v
  · subst hu
    rw [if_pos rfl]
    rcases h with h | ⟨z, h, hl⟩
    · rw [h] at e; cases e
    · rw [h] at e; cases e; exact ⟨x, rfl, by omega⟩
  · rw [if_neg hu]; exact ⟨y, e, Int.le_refl _⟩
theorem sm_step {es : List Edge} {p n u v : Nat} {l x : Int} {f : Sf} (s : Sm es p n f) (m : (u, v, l) ∈ es ∨ (v, u, l) ∈ es) (hv : v < n) (hu : f u = some x) (h : f v = none ∨ ∃ y, f v = some y ∧ x + l < y) : Sm es p n (setF f v (x + l)) := by
  have wv : Walk es p v (x + l) := by
    rcases m with m | m
    · exact .there (s.walk u x hu) m
    · exact .back (s.walk u x hu) m
  refine ⟨fun t y e => ?_, ?_, fun t y e => ?_⟩
  · unfold setF at e
    by_cases ht : t = v
    · rw [if_pos ht] at e; cases e; rw [ht]; exact wv
    · rw [if_neg ht] at e; exact s.walk t y e
  · obtain ⟨z, hz, hz0⟩ := s.zero
    obtain ⟨y, hy, hle⟩ := setF_leq h p z hz
    exact ⟨y, hy, by omega⟩
  · unfold setF at e
    by_cases ht : t = v
    · rw [ht]; exact hv
    · rw [if_neg ht] at e; exact s.inn t y e
/-- v is reached over u as g has it -/
def Rch (g f : Sf) (u v : Nat) (l : Int) : Prop := ∀ y, g u = some y → ∃ z, f v = some z ∧ z ≤ y + l
theorem Rch.mono {g f f' : Sf} {u v : Nat} {l : Int} (r : Rch g f u v l) (h : Leq f' f) : Rch g f' u v l := fun y e => by
  obtain ⟨z, h1, h2⟩ := r y e
  obtain ⟨w, h3, h4⟩ := h v z h1
  exact ⟨w, h3, by omega⟩
theorem rch_set {g f : Sf} {u v : Nat} {l x : Int} (h : Leq f g) (hu : f u = some x) : Rch g (setF f v (x + l)) u v l := fun y e => by
  obtain ⟨z, h1, h2⟩ := h u y e
  rw [hu] at h1; cases h1
  exact ⟨x + l, by unfold setF; rw [if_pos rfl], by omega⟩
theorem rch_stay {g f : Sf} {u v : Nat} {l : Int} (h : Leq f g) (hs : ∀ x, f u = some x → ∃ y, f v = some y ∧ y ≤ x + l) : Rch g f u v l := fun y e => by
  obtain ⟨z, h1, h2⟩ := h u y e
  obtain ⟨w, h3, h4⟩ := hs z h1
  exact ⟨w, h3, by omega⟩
/-- a whole round -/
def Rnd (es : List Edge) (g f : Sf) : Prop := Leq f g ∧ ∀ u v l, ((u, v, l) ∈ es ∨ (v, u, l) ∈ es) → Rch g f u v l
/-- nothing moved: these are the distances -/
theorem sums_still {es : List Edge} {p n : Nat} {f g : Sf} (hp : PosE es) (s : Sm es p n f) (r : Rnd es g f) (e : ∀ v, f v = g v) (v : Nat) : f v = dist es p v :=
  dist_of hp s.zero (fun u v l m x hx => r.2 u v l m x (by rw [← e]; exact hx)) s.walk v
/-- what is known behind i rounds -/
def Fin (es : List Edge) (p n i : Nat) (f : Sf) : Prop := ∀ v x, dist es p v = some x → below es p n x ≤ i + 1 → ∃ y, f v = some y ∧ y ≤ x
theorem below_step {es : List Edge} {p n v u : Nat} {x l : Int} (hp : PosE es) (hn : Inn n es) (hpn : p < n) (h : dist es p v = some (x + l)) (hl : 1 ≤ l) : below es p n x + 1 ≤ below es p n (x + l) := by
  have hvn : v < n := (dist_some.mp h).1.inn hn hpn
  unfold below
  refine countP_lt (a := v) (List.mem_range.mpr hvn) ?_ ?_ ?_
  · rw [h]; simp
  · rw [h]; simp; omega
  · intro z hz
    cases e : dist es p z with
    | none => rw [e] at hz; cases hz
    | some t => rw [e] at hz; simp at hz ⊢; omega
theorem below_zero {es : List Edge} {p n : Nat} {x : Int} (hp : PosE es) (hpn : p < n) (hx : 0 ≤ x) : 1 ≤ below es p n x := by
  unfold below
  refine List.countP_pos_iff.mpr ⟨p, List.mem_range.mpr hpn, ?_⟩
  rw [dist_self hp]
  simp; omega
theorem fin_start {es : List Edge} {p n : Nat} {f : Sf} (hp : PosE es) (hn : Inn n es) (hpn : p < n) (s : Sm es p n f) : Fin es p n 0 f := fun v x h hb => by
  by_cases hv : v = p
  · subst hv
    obtain ⟨z, hz, hz0⟩ := s.zero
    rw [dist_self hp] at h; cases h
    exact ⟨z, hz, hz0⟩
  · exfalso
    obtain ⟨u, y, l, m, hu, rfl⟩ := dist_last hp h hv
    have hl1 : 1 ≤ l := by rcases m with m | m <;> exact hp _ m
    have h1 := below_step (u := u) hp hn hpn h hl1
    have h2 := below_zero (x := y) hp hpn (dist_nonneg hp hu)
    omega
theorem fin_step {es : List Edge} {p n i : Nat} {f g : Sf} (hp : PosE es) (hn : Inn n es) (hpn : p < n) (F : Fin es p n i g) (s : Sm es p n f) (r : Rnd es g f) : Fin es p n (i + 1) f := fun v x h hb => by
  by_cases hv : v = p
  · subst hv
    obtain ⟨z, hz, hz0⟩ := s.zero
    rw [dist_self hp] at h; cases h
    exact ⟨z, hz, hz0⟩
  · obtain ⟨u, y, l, m, hu, rfl⟩ := dist_last hp h hv
    have hl1 : 1 ≤ l := by rcases m with m | m <;> exact hp _ m
    have h1 := below_step (u := u) hp hn hpn h hl1
    obtain ⟨z, hz, hzy⟩ := F u y hu (by omega)
    obtain ⟨w, hw, hwz⟩ := r.2 u v l m z hz
    exact ⟨w, hw, by omega⟩
theorem sums_done {es : List Edge} {p n : Nat} {f : Sf} (hp : PosE es) (s : Sm es p n f) (F : Fin es p n n f) (v : Nat) : f v = dist es p v := by
  cases e : dist es p v with
  | none =>
    cases h : f v with
    | none => rfl
    | some x => exact absurd (s.walk v x h) ((dist_none hp).mp e x)
  | some x =>
    obtain ⟨y, hy, hle⟩ := F v x e (by unfold below; exact Nat.le_trans List.countP_le_length (by simp))
    have := (dist_some.mp e).2 y (s.walk v y hy)
    rw [hy]; congr 1; omega
end Md
end Mm5Part
section P11Part
set_option Elab.async false
set_option linter.all false
set_option maxRecDepth 100000
set_option maxHeartbeats 4000000
set_option pp.maxSteps 300
/-! the law's own sums -/
namespace Md
open PySem L2
structure Fd (n : Nat) (f : Sf) (kd : List (Int × Dat)) : Prop where
  get : ∀ v : Nat, getI kd (v : Int) = (f v).map Dat.int
  key : ∀ k d, getI kd k = some d → ∃ v : Nat, k = (v : Int) ∧ v < n
  isI : IntsD kd
theorem put_mem {kd : List (Int × Dat)} {k : Int} {d : Dat} : ∀ p, p ∈ putI kd k d → p.2 = d ∨ p ∈ kd := fun p hp => by
  unfold putI at hp
  split at hp
  · obtain ⟨q, hq, e⟩ := List.mem_map.mp hp
    by_cases h : q.1 = k
    · rw [if_pos h] at e; rw [← e]; exact .inl rfl
    · rw [if_neg h] at e; rw [← e]; exact .inr hq
  · rcases List.mem_append.mp hp with h | h
    · exact .inr h
    · rw [List.mem_singleton.mp h]; exact .inl rfl
theorem Fd.put {n : Nat} {f : Sf} {kd : List (Int × Dat)} (h : Fd n f kd) {v : Nat} (hv : v < n) (x : Int) : Fd n (setF f v x) (putI kd (v : Int) (.int x)) := by
  refine ⟨fun u => ?_, fun k d e => ?_, fun p hp => ?_⟩
  · rw [getI_put]
    unfold setF
    by_cases e : u = v
    · subst e; rw [if_pos rfl, if_pos rfl]; rfl
    · rw [if_neg (by omega), if_neg e]; exact h.get u
  · rw [getI_put] at e
    by_cases hk : k = (v : Int)
    · exact ⟨v, hk, hv⟩
    · rw [if_neg hk] at e; exact h.key k d e
  · rcases put_mem p hp with e | e
    · exact ⟨x, e⟩
    · exact h.isI p e
def sp_law_sums : Spec := fun ws Φ => ∃ (W : Web) (k : Nat) (r : Row) (p : Nat), ws = [.d (dWeb W), .lst false (r.map dOpt), .d (dN p)] ∧ W.Ok k ∧ k ≤ r.length ∧ p < W.n ∧
  ∀ (f : Sf) (kd : List (Int × Dat)), Fd W.n f kd → Sm (tied W r) p W.n f → (RowPos r → ∀ v, f v = dist (tied W r) p v) → kd.length ≤ 1000 → Φ (.dic true kd)
section
variable {F : Fr} {X : Cx} {ρ : Env1} {a b c e : Expr} {pos p : Pos}
theorem vc {i : Nat} {x : Str} {pos : Pos} {o : Bool} {kd : List (Int × Dat)} (hi : X.N[i]? = some x) (hw : ρ[i]? = some (some (.dic o kd))) (hv : Vis X.env.scope x := by first | exact .inl rfl | exact .inr (.inl rfl) | exact .inr (.inr rfl)) (hd : (x == ("__debug__" : Str)) = false := by decide) (hcd : (x == ("__classdict__" : Str)) = false := by decide) :
    Ev F X (.Name x pos) ρ (.dic false kd) := ev_var hi hv hw hd hcd
theorem ev_dget {o : Bool} {kd : List (Int × Dat)} {k : Int} {d : Dat} (hu : X.A.units + 1 < cLine) (ha : Ev F X a ρ (.dic o kd)) (hb : Ev F X b ρ (.d (.int k))) (hg : getI kd k = some d) (hs : NoSl b := by exact fun _ _ => rfl) : Ev F X (.Subscript a b pos) ρ (.d d) := ec_dget hu (ha.then ⟨o, kd, rfl, hb.then ⟨k, d, rfl, hg, rfl⟩⟩) hs
theorem ev_din {o : Bool} {kd : List (Int × Dat)} {k : Int} (hu : X.A.units + 1 < cLine) (ha : Ev F X a ρ (.d (.int k))) (hb : Ev F X b ρ (.dic o kd)) (hm : behindInMarks .In b = false := by rfl) : EvT F X (.Compare a [.In] [b] pos) ρ (getI kd k).isSome := et_din hu (ha.then ⟨k, rfl, hb.then ⟨o, kd, rfl, rfl⟩⟩) hm
theorem ev_dnotin {o : Bool} {kd : List (Int × Dat)} {k : Int} (hu : X.A.units + 1 < cLine) (ha : Ev F X a ρ (.d (.int k))) (hb : Ev F X b ρ (.dic o kd)) (hm : behindInMarks .NotIn b = false := by rfl) : EvT F X (.Compare a [.NotIn] [b] pos) ρ (!(getI kd k).isSome) := et_dnotin hu (ha.then ⟨k, rfl, hb.then ⟨o, kd, rfl, rfl⟩⟩) hm
theorem ev_dget2 {apos cpos : Pos} {o : Bool} {kd : List (Int × Dat)} {k : Int} {d u : Dat} (hu : X.A.units + 1 < cLine) (ha : Ev F X a ρ (.dic o kd)) (hb : Ev F X b ρ (.d (.int k))) (hc : Ev F X c ρ (.d d)) (hg : (getI kd k).getD d = u)
    (h1 : attributeBase a "get" X.env (eval a X.env) = eval a X.env := by rfl)
    (h2 : ((backTo cpos (starEach [b, c] X.env)).all (fun x => !x.1) && (backToKw cpos (keywordEach [] X.env)).all (fun x => x.1.isSome) && decide (([b, c] : List Expr).length + ([] : List Keyword).length + (if ([] : List Keyword).isEmpty then 0 else 1) < 30)) = true := by rfl)
    (h3 : (apos.endLine == cpos.line) = true := by rfl) (h4 : backTo cpos (starEach [b, c] X.env) = [(false, eval b X.env), (false, eval c X.env)] := by rfl) : Ev F X (.Call (.Attribute a "get" apos) [b, c] [] cpos) ρ (.d u) :=
  ec_dget2 hu (ha.then ⟨o, kd, rfl, hb.then ⟨k, rfl, hc.then ⟨d, rfl, by rw [hg]⟩⟩⟩) h1 h2 h3 h4
end
section
variable {P : Program} {w : World} {K : PySem.W.Frag} {mg : Str → Option Value} {base : Heap} {f : Addr} {fd : FuncData}
abbrev LsE (W : Web) (r : Row) (p : Nat) (kd : List (Int × Dat)) (c4 c5 c6 c7 c8 c9 c10 : Option Md.W) : Env1 := [some (.d (dWeb W)), some (.lst false (r.map dOpt)), some (.d (dN p)), some (.dic true kd), c4, c5, c6, c7, c8, c9, c10]
theorem ok_law_sums (F : Fun K "_law_sums" "_law_sums" s_law_sums f fd) (B : Bt mg) : FnOk P w K mg base CX0 1 f fd ["_law_web", "_law_sizes", "_law_begin"] (spD CP sp_law_sums) := by
  refine fnD F sc_law_sums (by decide) (fun ws Φ ⟨i, k, l, p, h, _⟩ => by rw [h]; rfl) fun cdv A outer s0 H E G ws Φ hC hr hS => ?_
  obtain ⟨W, k, r, p, rfl, ok, hk, hp, hΦ⟩ := hS
  have hu := hu_of hr
  have hu0 : (bx P w K mg base N_law_sums "_law_sums" s_law_sums f cdv A outer s0 H E).A.units < cLine := by omega
  have inn : Inn W.n (tied W r) := tied_inn ok
  have hn7 := ok.small
  have hts := ok.few
  have fin : ∀ (fx : Sf) (kd : List (Int × Dat)) (c4 c5 c6 c7 c8 c9 c10 : Option Md.W), Fd W.n fx kd → Sm (tied W r) p W.n fx → (RowPos r → ∀ v, fx v = dist (tied W r) p v) → kd.length ≤ 1000 →
      SS G (bx P w K mg base N_law_sums "_law_sums" s_law_sums f cdv A outer s0 H E) ((defBody s_law_sums).drop 2) (LsE W r p kd c4 c5 c6 c7 c8 c9 c10) { nx := fun _ => Φ (.d .non), rt := Φ } := fun fx kd c4 c5 c6 c7 c8 c9 c10 h1 h2 h3 h4 => ss_one (s_retV (i := 3) rfl (.inl rfl) rfl (hΦ fx kd h1 h2 h3 h4))
  have f0 : Fd W.n (sf0 p) [((p : Int), .int 0)] := by
    refine ⟨fun v => ?_, fun k d e => ?_, fun q hq => ?_⟩
    · unfold sf0
      by_cases e : v = p
      · subst e; rw [getI_pos rfl, if_pos rfl]; rfl
      · rw [getI_neg (by show ¬ (p : Int) = (v : Int); omega), if_neg e]; rfl
    · by_cases hk : (p : Int) = k
      · exact ⟨p, hk.symm, hp⟩
      · rw [getI_neg (by exact hk)] at e; cases e
    · rw [List.mem_singleton.mp hq]; exact ⟨0, rfl⟩
  refine ss_cons (s_set (i := 3) (sc_law_sums).nd rfl (.inl rfl) (ec_disp1 (Ev.then (vd (i := 2) rfl rfl) ⟨_, rfl, Ev.then ev_int ⟨_, rfl, rfl, ?_⟩⟩)))
  refine ss_cons (s_for pat_name rfl (pg_name (i := 4) (sc_law_sums).nd rfl (.inl rfl)) PassesOwn.never (ei_range1 rfl B.range (Ev.then (ev_ix (vd (i := 0) rfl rfl) ev_int rfl rfl) ⟨(W.n : Int), rfl, by omega, by omega,
    fun i ρ' => ∃ fx kd c4 c5 c6 c7 c8 c9 c10, ρ' = LsE W r p kd c4 c5 c6 c7 c8 c9 c10 ∧ Fd W.n fx kd ∧ Sm (tied W r) p W.n fx ∧ (RowPos r → Fin (tied W r) p W.n i fx) ∧ kd.length ≤ 1 + 20 * i,
    ⟨sf0 p, _, _, _, _, _, _, _, _, rfl, f0, sm_start hp, fun hr => fin_start (tied_pos hr) inn hp (sm_start hp), by simp⟩, ?_, ?_⟩)))
  · rintro i dd ρ' hd ⟨g, kd, c4, c5, c6, c7, c8, c9, c10, rfl, Fg, Sg, Ng, Lg⟩
    have hi : i < W.n := by have := (List.getElem?_eq_some_iff.mp hd).1; simpa [rangeD] using this
    refine ⟨_, rfl, ?_⟩
    refine ss_cons (s_set (i := 5) (sc_law_sums).nd rfl (.inl rfl) (ec_dcopy rfl B.dict (Ev.then (vc (i := 3) rfl rfl) ⟨_, _, rfl, rfl, ?_⟩)))
    refine ss_cons (s_for pat_three rfl (pg_tup rfl (pgs_cons (pg_name (i := 6) (sc_law_sums).nd rfl (.inl rfl)) (pgs_cons (pg_name (i := 7) (sc_law_sums).nd rfl (.inl rfl)) (pgs_cons (pg_name (i := 8) (sc_law_sums).nd rfl (.inl rfl)) pgs_nil)))) PassesOwn.never
      (ei_tup (Ev.then (ev_ix (vd (i := 0) rfl rfl) ev_int rfl rfl) ⟨_, rfl, fun j ρ' => ∃ fx kd' c6 c7 c8 c9 c10, ρ' = LsE W r p kd' (some (.d dd)) (some (.dic true kd)) c6 c7 c8 c9 c10 ∧ Fd W.n fx kd' ∧ Sm (tied W r) p W.n fx ∧ Leq fx g ∧
        (∀ j' t, j' < j → W.ts[j']? = some t → ∀ l, r.at t.2.2 = some l → Rch g fx t.1 t.2.1 l ∧ Rch g fx t.2.1 t.1 l) ∧ kd'.length ≤ 1 + 20 * i + 2 * j,
        ⟨g, kd, _, _, _, _, _, rfl, Fg, Sg, .refl g, fun j' t hj => absurd hj (Nat.not_lt_zero _), by omega⟩, ?_, ?_⟩)))
    · rintro j d2 ρ' hd2 ⟨fx, kd', c6, c7, c8, c9, c10, rfl, Ff, Sf', Lf, Rf, Lk⟩
      rw [List.getElem?_map] at hd2
      obtain ⟨t, ht, rfl⟩ : ∃ t, W.ts[j]? = some t ∧ d2 = dTie t := by
        cases h : W.ts[j]? with
        | none => rw [h] at hd2; cases hd2
        | some t => rw [h] at hd2; exact ⟨t, rfl, (Option.some.inj hd2).symm⟩
      have hjl : j < W.ts.length := (List.getElem?_eq_some_iff.mp ht).1
      have htm := List.mem_of_getElem? ht
      obtain ⟨t1, t2, t3, t4⟩ := ok.ties t htm
      have gr : atI (r.map dOpt) (t.2.2 : Int) = some (dOpt (r.at t.2.2)) := atI_row (by omega)
      refine ⟨_, ⟨_, _, _, rfl, rfl⟩, ?_⟩
      have key : ∀ m d, [Dat.tup [dN t.1, dN t.2.1], Dat.tup [dN t.2.1, dN t.1]][m]? = some d → ∃ x y, d = .tup [dN x, dN y] ∧ x < W.n ∧ y < W.n ∧ (∀ l, r.at t.2.2 = some l → (x, y, l) ∈ tied W r ∨ (y, x, l) ∈ tied W r) ∧ ((m = 0 ∧ x = t.1 ∧ y = t.2.1) ∨ (m = 1 ∧ x = t.2.1 ∧ y = t.1)) := by
        intro m d hm
        match m, hm with
        | 0, hm => cases hm; exact ⟨t.1, t.2.1, rfl, t1, t2, fun l hl => .inl (tied_mem.mpr ⟨t.2.2, htm, hl⟩), .inl ⟨rfl, rfl, rfl⟩⟩
        | 1, hm => cases hm; exact ⟨t.2.1, t.1, rfl, t2, t1, fun l hl => .inr (tied_mem.mpr ⟨t.2.2, htm, hl⟩), .inr ⟨rfl, rfl, rfl⟩⟩
        | m + 2, hm => simp at hm
      refine ss_one (s_for pat_two rfl (pg_tup rfl (pgs_cons (pg_name (i := 9) (sc_law_sums).nd rfl (.inl rfl)) (pgs_cons (pg_name (i := 10) (sc_law_sums).nd rfl (.inl rfl)) pgs_nil))) PassesOwn.never
        (ei_tup (Ev.then (ev_tup (eva_cons (ev_tup (eva_cons (vd (i := 6) rfl rfl) (eva_cons (vd (i := 7) rfl rfl) eva_nil)) (.cons (.cons .nil))) (eva_cons (ev_tup (eva_cons (vd (i := 7) rfl rfl) (eva_cons (vd (i := 6) rfl rfl) eva_nil)) (.cons (.cons .nil))) eva_nil)) (.cons (.cons .nil))) ⟨_, rfl,
          fun m ρ' => ∃ fx kd' c9 c10, ρ' = LsE W r p kd' (some (.d dd)) (some (.dic true kd)) (some (.d (dN t.1))) (some (.d (dN t.2.1))) (some (.d (dN t.2.2))) c9 c10 ∧ Fd W.n fx kd' ∧ Sm (tied W r) p W.n fx ∧ Leq fx g ∧
            (∀ j' t, j' < j → W.ts[j']? = some t → ∀ l, r.at t.2.2 = some l → Rch g fx t.1 t.2.1 l ∧ Rch g fx t.2.1 t.1 l) ∧ (1 ≤ m → ∀ l, r.at t.2.2 = some l → Rch g fx t.1 t.2.1 l) ∧ (2 ≤ m → ∀ l, r.at t.2.2 = some l → Rch g fx t.2.1 t.1 l) ∧ kd'.length ≤ 1 + 20 * i + 2 * j + m,
          ⟨fx, kd', _, _, rfl, Ff, Sf', Lf, Rf, fun z => absurd z (by decide), fun z => absurd z (by decide), by omega⟩, ?_, ?_⟩)))
      · rintro m d3 ρ' hd3 ⟨fx, kd', c9, c10, rfl, Ff, Sf', Lf, Rf, R1, R2, Lk⟩
        have hm2 : m < 2 := by have := (List.getElem?_eq_some_iff.mp hd3).1; simpa using this
        obtain ⟨x, y, rfl, hx, hy, hxy, hm⟩ := key m d3 hd3
        refine ⟨_, ⟨_, _, rfl, rfl⟩, ?_⟩
        have gx : getI kd' (x : Int) = (fx x).map Dat.int := Ff.get x
        have gy : getI kd' (y : Int) = (fx y).map Dat.int := Ff.get y
        -- what it is to go on with f' and kd''
        have on : ∀ f' kd'', Fd W.n f' kd'' → Sm (tied W r) p W.n f' → Leq f' fx → (∀ l, r.at t.2.2 = some l → Rch g f' x y l) → kd''.length ≤ kd'.length + 1 → ∃ fx kd' c9 c10, LsE W r p kd'' (some (.d dd)) (some (.dic true kd)) (some (.d (dN t.1))) (some (.d (dN t.2.1))) (some (.d (dN t.2.2))) (some (.d (dN x))) (some (.d (dN y))) = LsE W r p kd' (some (.d dd)) (some (.dic true kd)) (some (.d (dN t.1))) (some (.d (dN t.2.1))) (some (.d (dN t.2.2))) c9 c10 ∧ Fd W.n fx kd' ∧ Sm (tied W r) p W.n fx ∧ Leq fx g ∧
            (∀ j' t, j' < j → W.ts[j']? = some t → ∀ l, r.at t.2.2 = some l → Rch g fx t.1 t.2.1 l ∧ Rch g fx t.2.1 t.1 l) ∧ (1 ≤ m + 1 → ∀ l, r.at t.2.2 = some l → Rch g fx t.1 t.2.1 l) ∧ (2 ≤ m + 1 → ∀ l, r.at t.2.2 = some l → Rch g fx t.2.1 t.1 l) ∧ kd'.length ≤ 1 + 20 * i + 2 * j + (m + 1) := fun f' kd'' a1 a2 a3 a4 a5 => by
          refine ⟨f', kd'', _, _, rfl, a1, a2, a3.trans Lf, fun j' t' hj' ht' l hl => ⟨((Rf j' t' hj' ht' l hl).1).mono a3, ((Rf j' t' hj' ht' l hl).2).mono a3⟩, fun _ l hl => ?_, fun h2 l hl => ?_, by omega⟩
          · rcases hm with ⟨rfl, rfl, rfl⟩ | ⟨rfl, rfl, rfl⟩
            · exact a4 l hl
            · exact (R1 (Nat.le_refl _) l hl).mono a3
          · rcases hm with ⟨rfl, rfl, rfl⟩ | ⟨rfl, rfl, rfl⟩
            · omega
            · exact a4 l hl
        have stay : (∀ l, r.at t.2.2 = some l → ∀ z, fx x = some z → ∃ z', fx y = some z' ∧ z' ≤ z + l) → _ := fun h => on fx kd' Ff Sf' (.refl fx) (fun l hl => rch_stay Lf (h l hl)) (by omega)
        have opt : ∀ o : Option Int, o = none ∨ ∃ l, o = some l := fun o => by cases o with | none => exact .inl rfl | some l => exact .inr ⟨l, rfl⟩
        rcases opt (r.at t.2.2) with hl | ⟨l, hl⟩
        · rw [hl] at gr
          exact ss_one (s_ifF (EvT.is (evT_and3 (q := false) (r := false) (et_notN (ev_ix (vl (i := 1) rfl rfl) (vd (i := 8) rfl rfl) rfl gr)) (fun z => nomatch z) (fun z => nomatch z)) rfl) (ss_nil (stay fun l h => by rw [hl] at h; cases h)))
        · rw [hl] at gr
          rcases opt (fx x) with hfx | ⟨z, hfx⟩
          · rw [hfx] at gx
            have gx' : getI kd' (x : Int) = none := gx
            exact ss_one (s_ifF (EvT.is (evT_and3 (r := false) (et_notN (ev_ix (vl (i := 1) rfl rfl) (vd (i := 8) rfl rfl) rfl gr)) (fun _ => EvT.is (ev_din hu (vd (i := 9) rfl rfl) (vc (i := 3) rfl rfl)) (u := false) (by rw [gx']; rfl)) (fun _ z => nomatch z)) rfl) (ss_nil (stay fun l h z hz => by rw [hfx] at hz; cases hz)))
          · rw [hfx] at gx
            have gx' : getI kd' (x : Int) = some (.int z) := gx
            obtain ⟨u, hu2, hlt⟩ : ∃ u : Int, (getI kd' (y : Int)).getD (.int (z + l + 1)) = .int u ∧ (z + l < u ↔ (fx y = none ∨ ∃ t, fx y = some t ∧ z + l < t)) := by
              rw [gy]
              cases hfy : fx y with
              | none => exact ⟨_, rfl, fun _ => .inl rfl, fun _ => by omega⟩
              | some t' => exact ⟨t', rfl, fun h => .inr ⟨t', rfl, h⟩, fun h => by rcases h with h | ⟨t2, h, h2⟩; cases h; cases h; exact h2⟩
            have mv : l = l := rfl
            refine ss_one (s_if (EvT.then (b := decide (z + l < u)) (EvT.is (evT_and3 (et_notN (ev_ix (vl (i := 1) rfl rfl) (vd (i := 8) rfl rfl) rfl gr)) (fun _ => EvT.is (ev_din hu (vd (i := 9) rfl rfl) (vc (i := 3) rfl rfl)) (u := true) (by rw [gx']; rfl)) (fun _ _ => et_lt (ev_add (ev_dget hu (vc (i := 3) rfl rfl) (vd (i := 9) rfl rfl) gx') (ev_ix (vl (i := 1) rfl rfl) (vd (i := 8) rfl rfl) rfl gr))
              (ev_dget2 hu (vc (i := 3) rfl rfl) (vd (i := 10) rfl rfl) (ev_add (ev_add (ev_dget hu (vc (i := 3) rfl rfl) (vd (i := 9) rfl rfl) gx') (ev_ix (vl (i := 1) rfl rfl) (vd (i := 8) rfl rfl) rfl gr)) ev_int) hu2))) (by simp [dOpt, isNon])) ⟨fun hb => ?_, fun hb => ?_⟩))
            · have hb' := hlt.mp (of_decide_eq_true hb)
              refine ss_one (s_dput hu (i := 3) rfl (.inl rfl) rfl (by omega) (Ev.then (ev_add (ev_dget hu (vc (i := 3) rfl rfl) (vd (i := 9) rfl rfl) gx') (ev_ix (vl (i := 1) rfl rfl) (vd (i := 8) rfl rfl) rfl gr)) ⟨_, rfl, Ev.then (vd (i := 10) rfl rfl) ⟨(y : Int), rfl, ?_⟩⟩))
              exact on (setF fx y (z + l)) _ (Ff.put hy _) (sm_step Sf' (hxy l hl) hy hfx hb') (setF_leq hb') (fun l' hl' => by rw [hl] at hl'; cases hl'; exact rch_set Lf hfx) (putI_len _ _ _)
            · refine ss_nil (stay fun l' hl' z' hz' => ?_)
              rw [hl] at hl'; cases hl'
              rw [hfx] at hz'; cases hz'
              have hb' := fun h => of_decide_eq_false hb (hlt.mpr h)
              cases hfy : fx y with
              | none => exact absurd (.inl hfy) hb'
              | some t' => exact ⟨t', rfl, by have : ¬ z + l < t' := fun h => hb' (.inr ⟨t', hfy, h⟩); omega⟩
      · rintro ρ' ⟨fx, kd', c9, c10, rfl, Ff, Sf', Lf, Rf, R1, R2, Lk⟩
        refine ⟨fx, kd', _, _, _, _, _, rfl, Ff, Sf', Lf, fun j' t' hj' ht' l hl => ?_, by have : ([Dat.tup [dN t.1, dN t.2.1], Dat.tup [dN t.2.1, dN t.1]] : List Dat).length = 2 := rfl; omega⟩
        by_cases e : j' = j
        · subst e
          rw [ht] at ht'; cases ht'
          exact ⟨R1 (by simp) l hl, R2 (by simp) l hl⟩
        · exact Rf j' t' (by omega) ht' l hl
    · rintro ρ' ⟨fx, kd', c6, c7, c8, c9, c10, rfl, Ff, Sf', Lf, Rf, Lk⟩
      rw [List.length_map] at Rf Lk
      have rnd : Rnd (tied W r) g fx := by
        refine ⟨Lf, fun u v l m => ?_⟩
        rcases m with m | m
        · obtain ⟨c, hm, hl⟩ := tied_mem.mp m
          obtain ⟨j, hj⟩ := List.getElem?_of_mem hm
          exact (Rf j _ (List.getElem?_eq_some_iff.mp hj).1 hj l hl).1
        · obtain ⟨c, hm, hl⟩ := tied_mem.mp m
          obtain ⟨j, hj⟩ := List.getElem?_of_mem hm
          exact (Rf j _ (List.getElem?_eq_some_iff.mp hj).1 hj l hl).2
      refine ss_one (s_if (et_eqDic hu0 (Ev.then (vc (i := 3) rfl rfl) ⟨_, kd', rfl, Ev.then (vc (i := 5) rfl rfl) ⟨_, kd, rfl, Ff.isI, Fg.isI, fun rr hrr => ⟨fun e => ?_, fun e => ?_⟩⟩⟩)))
      · subst e
        obtain ⟨l1, l2⟩ := hrr rfl
        have same : ∀ v, fx v = g v := fun v => by
          have h1 := Ff.get v
          have h2 := Fg.get v
          cases hv : fx v with
          | some x =>
            rw [hv] at h1
            have := l2 _ _ (getI_mem h1)
            rw [h2] at this
            cases hg : g v with
            | none => rw [hg] at this; cases this
            | some y => rw [hg] at this; cases this; rfl
          | none =>
            cases hg : g v with
            | none => rfl
            | some y =>
              obtain ⟨z, hz, _⟩ := Lf v y hg
              rw [hv] at hz; cases hz
        exact ss_one (s_break (fin fx kd' _ _ _ _ _ _ _ Ff Sf' (fun hp' => sums_still (tied_pos hp') Sf' rnd same) (by omega)))
      · exact ss_nil ⟨fx, kd', _, _, _, _, _, _, _, rfl, Ff, Sf', fun hp' => fin_step (tied_pos hp') inn hp (Ng hp') Sf' rnd, by omega⟩
  · rintro ρ' ⟨fx, kd, c4, c5, c6, c7, c8, c9, c10, rfl, Ff, Sf', Nf, Lk⟩
    have : (rangeD 0 ((W.n : Nat) : Int).toNat).length = W.n := by simp [rangeD]
    rw [this] at Nf Lk
    exact fin fx kd _ _ _ _ _ _ _ Ff Sf' (fun hp' => sums_done (tied_pos hp') Sf' (Nf hp')) (by omega)
end
end Md
end P11Part
section MdQPart
set_option Elab.async false
set_option linter.all false
set_option maxRecDepth 100000
set_option maxHeartbeats 4000000
set_option pp.maxSteps 400
/-! [d[k] for k in d] -/
namespace Md
open PySem L2
theorem upd_back {H : Hp} {d D : Addr} {u a l : HO} (hd : H d = some u) (hD : D ≠ d) : upd (upd (upd H d a) D l) d u = upd H D l := by
  funext x
  by_cases h1 : x = d
  · subst h1; rw [upd_same, upd_ne (Ne.symm hD), hd]
  · by_cases h2 : x = D
    · subst h2; rw [upd_ne h1, upd_same, upd_same]
    · rw [upd_ne h1, upd_ne h2, upd_ne h1, upd_ne h2]
theorem getI_has {kd : List (Int × Dat)} {k : Int} {d : Dat} (h : (k, d) ∈ kd) : ∃ d', getI kd k = some d' := by
  have := getI_any k kd
  cases e : getI kd k with
  | some d' => exact ⟨d', rfl⟩
  | none =>
    rw [e] at this
    have h2 : (kd.any fun p => decide (p.1 = k)) = true := List.any_eq_true.mpr ⟨_, h, by simp⟩
    rw [this] at h2; cases h2
section
variable {F : Fr} {X : Cx} {ρ : Env1} {elt : Expr} {pos p : Pos} {scope : Scope} {kk : Str}
theorem ec_lcVals {i j : Nat} {x y : Str} {px py : Pos} {own : List (Str × Nat)} {o : Bool} {kd : List (Int × Dat)} {Φ : W → Prop} (hc : X.calm = true) (hN : X.N.Nodup) (hi : X.N[i]? = some x) (hv : Vis X.env.scope x) (hij : i ≠ j) (hown : own = [(y, j)]) (hw : ρ[i]? = some (some (.dic o kd))) (ok : BlkOk X.N X.env.scope scope own)
    (hg : Blk X scope fun Y => PG Y (.Name y py) (gName j)) (he : Blk X scope fun Y => PE Y elt (tDGet (tVar i) (tVar j))) (hk : IntsD kd) (hl : kd.length ≤ 1000) (h : ∀ ns : List Int, ns.length = kd.length → Φ (.lst true (ns.map Dat.int))) (hjl : j < ρ.length)
    (hd : (x == ("__debug__" : Str)) = false := by decide) (hcd : (x == ("__classdict__" : Str)) = false := by decide) (hs : ∀ u, foldedSetIterable (.Name x px) X.env u = pure u := by intro _; rfl) : EC F X (.ListComp elt [⟨.Name y py, .Name x px, [], 0⟩] scope pos) ρ Φ := fun H0 H σ k Q q => by
  subst hown
  obtain ⟨d, ks, s1, s2, s3, s4, s5⟩ := k.dict hw
  refine PE.c (pe_lock (pe_lc hc hN (pi_keys (pe_var hi hv hd hcd)) ok hg (fun s H C cl fp => pts_nil) he hs)) ?_
  refine ⟨d, _, s2, trivial, fun od => ?_⟩
  have hks : ks.length = kd.length := s3.length
  refine ⟨_, s1, d, od, rfl, .inl ⟨ks, upd_same, fun D hD => ?_⟩⟩
  have hDd : D ≠ d := fun e => by rw [e, upd_same] at hD; cases hD
  have hDn : H D = none := by rw [upd_ne hDd] at hD; exact hD
  refine ⟨fun n m H' => m = ks.length - n ∧ n ≤ ks.length ∧ ∃ ns : List Int, ns.length = n ∧ H' = upd (upd H d (.frz od (.dK ks))) D (.lst (ns.map V.int)), ⟨ks.length, by simp, Nat.zero_le _, [], rfl, rfl⟩, ?_⟩
  rintro n m H' ⟨rfl, hn, ns, hns, rfl⟩
  have hfd : upd (upd H d (.frz od (.dK ks))) D (.lst (ns.map V.int)) d = some (.frz od (.dK ks)) := by rw [upd_ne (Ne.symm hDd), upd_same]
  by_cases hlt : n < ks.length
  · refine .inr ⟨⟨hfd, hlt⟩, fun H2 => n + 1 ≤ ks.length ∧ ∃ ns : List Int, ns.length = n + 1 ∧ H2 = upd (upd H d (.frz od (.dK ks))) D (.lst (ns.map V.int)), fun H2 h2 => ⟨ks.length - (n + 1), by omega, rfl, h2⟩, fun u H2 yy => ?_⟩
    obtain ⟨e, key, v, hkv, eu⟩ := yy
    subst e eu
    obtain ⟨ki, dd, hm, hki, rd⟩ := s3.mem _ (List.mem_of_getElem? hkv)
    have hki' : key = Sum.inl ki := hki
    subst hki'
    obtain ⟨d', hd'⟩ := getI_has hm
    have ro := s3.val ki
    rw [hd'] at ro
    obtain ⟨z, hz⟩ := hk _ (getI_mem hd')
    have hz' : d' = .int z := hz
    subst hz'
    generalize hov : valV ks (Sum.inl ki : Key) = ov at ro
    cases ro with
    | @some vv _ rv =>
      cases rv
      have hjs : j < σ.length := by rw [k.len]; exact hjl
      refine ⟨?_, ?_⟩
      · show (((σ.set j none).set j (some (kV (Sum.inl ki)))).set j none) = σ.set j none
        rw [List.set_set, List.set_set]
      · show tDGet (tVar i) (tVar j) _ _ _
        have si : (((σ.set j none).set j (some (V.int ki))) : L2.St)[i]? = some (some (.ref d)) := by rw [List.getElem?_set_ne (Ne.symm hij), List.getElem?_set_ne (Ne.symm hij)]; exact s1
        have sj : (((σ.set j none).set j (some (V.int ki))) : L2.St)[j]? = some (some (.int ki)) := by rw [List.getElem?_set_self (by simpa using hjs)]
        refine ⟨.ref d, si, .int ki, sj, d, .int z, rfl, .inl ⟨ks, Sum.inl ki, .inr ⟨od, hfd⟩, rfl, hov.symm⟩, ns.map V.int, upd_same, by rw [List.length_map]; exact small1000 (by omega), by omega, ns ++ [z], by simp [hns], ?_⟩
        have ea : ns.map V.int ++ [V.int z] = (ns ++ [z]).map V.int := by rw [List.map_append]; rfl
        rw [ea]
        funext t
        by_cases ht : t = D
        · subst ht; rw [upd_same, upd_same]
        · rw [upd_ne ht, upd_ne ht, upd_ne ht]
  · have e : n = ks.length := by omega
    subst e
    refine .inl ⟨⟨hfd, Nat.le_refl _⟩, hfd, ?_⟩
    rw [upd_back s2 hDd]
    exact q _ _ _ (Ext.new hDn) (inv_new k.inv hDn) (repL_new k.inv hDn (reps_ints H ns)) (h ns (by omega))
end
end Md
end MdQPart
section P12Part
set_option Elab.async false
set_option linter.all false
set_option maxRecDepth 100000
set_option maxHeartbeats 4000000
set_option pp.maxSteps 400
/-! the law's distance, levels, heights -/
namespace Md
open PySem L2
def sp_law_distance : Spec := fun ws Φ => ∃ (s : Web) (b : List Web) (p q m : Nat), ws = [.d (dGarden s b), .d (dN p), .d (dN q), .d (dN m)] ∧ GardenOk s b ∧ p < s.n ∧ q < s.n ∧ m ≤ 1000 ∧ Φ (.d (dOpt (far s b m p q)))
def sp_law_level : Spec := fun ws Φ => ∃ (W : Web) (k : Nat) (h : List Int) (p q : Nat), ws = [.d (dWeb W), .d (dInts h), .d (dN p), .d (dN q)] ∧ W.Ok k ∧ k ≤ 3 ∧ h.length = W.n ∧ p < W.n ∧ q < W.n ∧ ∀ h' : List Int, h'.length = W.n → Φ (.d (dInts h'))
def sp_law_heights : Spec := fun ws Φ => ∃ (W : Web) (k : Nat) (st : List Int) (p q : Nat), ws = [.deck, .d (dWeb W), .lst false (st.map Dat.int), .d (dN p), .d (dN q)] ∧ W.Ok k ∧ k ≤ st.length ∧ p < W.n ∧ q < W.n ∧ ∀ h' : List Int, h'.length = W.n → Φ (.d (dInts h'))
def sp_law_own_over : Spec := fun ws Φ => ∃ (s : Web) (b : List Web) (p q m : Nat), ws = [.deck, .d (dGarden s b), .d (dN p), .d (dN q), .d (dN m)] ∧ GardenOk s b ∧ p < s.n ∧ q < s.n ∧ m ≤ 1000 ∧
  ∀ (tabs : List (List (List Int))) (h : List Int), tabs.length = m → (∀ t, t ∈ tabs → TabForm b t) → h.length = s.n → Φ (.d (.tup [.tup (tabs.map dTabI), dInts h]))
theorem Fd.opt {n : Nat} {f : Sf} {kd : List (Int × Dat)} (h : Fd n f kd) (v : Nat) : (getI kd (v : Int)).getD .non = dOpt (f v) := by
  rw [h.get]; cases f v <;> rfl
theorem outs_exI {α : Type} {n : Nat} {R : α → Prop} {xs : List α} {out : List Dat} (o : Outs (fun x r => ∃ y : Int, r = some (.int y)) xs out) : ∃ ys : List Int, out = ys.map Dat.int ∧ ys.length = xs.length := by
  induction o with
  | nil => exact ⟨[], rfl, rfl⟩
  | yes h t ih =>
    obtain ⟨z, e⟩ := h
    cases e
    obtain ⟨zs, e1, e2⟩ := ih
    exact ⟨z :: zs, by rw [e1]; rfl, by simp [e2]⟩
  | no h t ih => obtain ⟨z, e⟩ := h; cases e
section
variable {P : Program} {w : World} {K : PySem.W.Frag} {mg : Str → Option Value} {base : Heap} {f : Addr} {fd : FuncData}
theorem ok_law_distance (F : Fun K "_law_distance" "_law_distance" s_law_distance f fd) (B : Bt mg) (h_law_sums : HasFn P w K mg base "_law_sums" 1 (spD CP sp_law_sums)) : FnOk P w K mg base CX0 2 f fd ["_law_garden", "_law_p", "_law_q", "_law_n"] (spD CP sp_law_distance) := by
  refine fnD F sc_law_distance (by decide) (fun ws Φ ⟨i, l, p, q, m, h, _⟩ => by rw [h]; rfl) fun cdv A outer s0 H E G ws Φ hC hr hS => ?_
  obtain ⟨s, b, p, q, m, rfl, ok, hp, hq, hm, hΦ⟩ := hS
  have hu := hu_of hr
  have h3 := ok.book.three
  refine ss_cons (s_set (i := 4) (sc_law_distance).nd rfl (.inr rfl) (ec_repL (Ev.then (ev_lst (eva_cons ev_int eva_nil) (.cons .nil)) ⟨_, _, rfl, Ev.then (ev_len rfl B.len (ev_ix (vd (i := 0) rfl rfl) ev_int rfl rfl) rfl) ⟨_, rfl, by omega, by rw [List.length_map]; omega, rfl, ?_⟩⟩)))
  rw [List.length_map, Int.toNat_natCast, row0_rep]
  refine ss_cons (s_for pat_name rfl (pg_name (i := 5) (sc_law_distance).nd rfl (.inl rfl)) PassesOwn.never (ei_range1 rfl B.range (Ev.then (vd (i := 3) rfl rfl) ⟨_, rfl, by omega, by omega,
    fun i ρ' => ∃ c5, ρ' = [some (.d (dGarden s b)), some (.d (dN p)), some (.d (dN q)), some (.d (dN m)), some (.lst true ((ends b i).map dOpt)), c5, none], ⟨_, rfl⟩, ?_, ?_⟩)))
  · rintro i dd ρ' hd ⟨c5, rfl⟩
    refine ⟨_, rfl, ss_one (s_set (i := 4) (sc_law_distance).nd rfl (.inr rfl) ?_)⟩
    refine ec_lc (own := [("_law_growth_here", 6)]) b dWeb (fun W r => r = some (dOpt (dist (tied W (ends b i)) 0 1))) pat_name rfl (sc_law_distance).nd (blkOk_by (N := N_law_distance) (sc := defScope s_law_distance) (by decide +kernel)) (by simp) (by omega) (fun s H C cl fp => pg_name (i := 6) (sc_law_distance).nd rfl (.inl rfl))
      (ei_tup (Ev.then (ev_ix (vd (i := 0) rfl rfl) ev_int rfl rfl) ⟨_, rfl, rfl⟩)) (fun W hW => ⟨_, rfl, fun s H C cl fp => ets_nil ⟨fun _ s H C cl fp => ?_, fun e => nomatch e⟩⟩) fun out ho => ?_
    · obtain ⟨gok, g2⟩ := ok.book.each W hW
      refine ec_dget1 hu (ec_call0 h_law_sums (hr.mono (by decide)) rfl (EvA.then (eva_cons (vd (i := 6) rfl rfl) (eva_cons (vl (i := 4) rfl rfl) (eva_cons ev_int eva_nil))) ⟨rfl, W, _, ends b i, 0, rfl, gok, by rw [ends_length]; exact Nat.le_refl _, by omega, fun fx kd h1 h2 h3 _ => ⟨rfl, (fun z => nomatch z), _, _, rfl, Ev.then ev_int ⟨1, rfl, _, rfl, ?_⟩⟩⟩))
      have := h1.opt 1
      rw [h3 (ends_pos b i)] at this
      rw [← this]; rfl
    · rw [outs_map (f := fun W => dOpt (dist (tied W (ends b i)) 0 1)) ho]
      have e : b.map (fun W => dOpt (dist (tied W (ends b i)) 0 1)) = (ends b (i + 1)).map dOpt := by
        show _ = List.map dOpt (List.map (fun g => dist (tied g (ends b i)) 0 1) b)
        rw [List.map_map]; rfl
      rw [e]
      exact ⟨rfl, _, rfl⟩
  · rintro ρ' ⟨c5, rfl⟩
    have : (rangeD 0 ((m : Nat) : Int).toNat).length = m := by simp [rangeD]
    rw [this]
    refine ss_one (s_ret (ec_dget1 hu (ec_call0 h_law_sums (hr.mono (by decide)) rfl (EvA.then (eva_cons (ev_ix (vd (i := 0) rfl rfl) ev_int rfl rfl) (eva_cons (vl (i := 4) rfl rfl) (eva_cons (vd (i := 1) rfl rfl) eva_nil))) ⟨rfl, s, _, ends b m, p, rfl, ok.start, by rw [ends_length]; exact Nat.le_refl _, hp, fun fx kd h1 h2 h3 _ => ⟨rfl, (fun z => nomatch z), _, _, rfl, Ev.then (vd (i := 2) rfl rfl) ⟨(q : Int), rfl, ?_⟩⟩⟩))))
    have := h1.opt q
    rw [h3 (ends_pos b m)] at this
    rw [this]
    exact hΦ
theorem ok_law_level (F : Fun K "_law_level" "_law_level" s_law_level f fd) (B : Bt mg) (h_law_sums : HasFn P w K mg base "_law_sums" 1 (spD CP sp_law_sums)) : FnOk P w K mg base CX0 2 f fd ["_law_web", "_law_heights_here", "_law_p", "_law_q"] (spD CP sp_law_level) := by
  refine fnD F sc_law_level (by decide) (fun ws Φ ⟨i, l, p, q, m, h, _⟩ => by rw [h]; rfl) fun cdv A outer s0 H E G ws Φ hC hr hS => ?_
  obtain ⟨W, k, h, p, q, rfl, ok, hk, hl, hp, hq, hΦ⟩ := hS
  have hu := hu_of hr
  refine ss_cons (s_set (i := 4) (sc_law_level).nd rfl (.inr rfl) (ec_call0 h_law_sums (hr.mono (by decide)) rfl (EvA.then (eva_cons (vd (i := 0) rfl rfl) (eva_cons (ev_lst (eva_cons ev_int (eva_cons ev_int (eva_cons ev_int eva_nil))) (.cons (.cons (.cons .nil)))) (eva_cons (vd (i := 2) rfl rfl) eva_nil))) ⟨rfl, W, k, [some 1, some 1, some 1], p, rfl, ok, hk, hp, fun fx kd h1 h2 _ _ => ⟨rfl, (fun z => nomatch z), rfl, ?_⟩⟩)))
  obtain ⟨hi, hhi⟩ : ∃ hi : Int, hi = if (getI kd (q : Int)).isSome then at0 h p else at0 h q := ⟨_, rfl⟩
  refine ss_cons (s_set (i := 5) (sc_law_level).nd rfl (.inr rfl) (Ev.then (w := .d (.int hi)) (ec_if (EvT.then (ev_dnotin hu (vd (i := 3) rfl rfl) (vc (i := 4) rfl rfl)) ⟨fun hb => Ev.is (ev_ix (vd (i := 1) rfl rfl) (vd (i := 3) rfl rfl) rfl (at0_get (by omega))) ?f1, fun hb => Ev.is (ev_ix (vd (i := 1) rfl rfl) (vd (i := 2) rfl rfl) rfl (at0_get (by omega))) ?f2⟩)) ⟨rfl, ?_⟩))
  case f1 => rw [hhi, if_neg (by intro z; rw [z] at hb; cases hb)]
  case f2 => rw [hhi, if_pos (by cases e : (getI kd (q : Int)).isSome with | true => rfl | false => rw [e] at hb; cases hb)]
  refine ss_one (s_ret (ec_tuple rfl B.tuple ?_))
  refine ec_lc (own := [("_law_at", 6)]) (List.range W.n) (fun i : Nat => Dat.int (0 + (i : Int))) (fun i r => r = some (.int (if (getI kd (i : Int)).isSome then at0 h i else hi))) pat_name rfl (sc_law_level).nd (blkOk_by (N := N_law_level) (sc := defScope s_law_level) (by decide +kernel)) (by simp) (by have := ok.small; simp; omega) (fun s H C cl fp => pg_name (i := 6) (sc_law_level).nd rfl (.inl rfl))
    (ei_range1 rfl B.range (Ev.then (ev_ix (vd (i := 0) rfl rfl) ev_int rfl rfl) ⟨(W.n : Int), rfl, by omega, by have := ok.small; omega, by simp [rangeD]⟩)) (fun i hi' => ⟨_, rfl, fun s H C cl fp => ets_nil ⟨fun _ s H C cl fp => ?_, fun e => nomatch e⟩⟩) fun out ho => ?_
  · have hin : i < h.length := by have := List.mem_range.mp hi'; omega
    rw [Int.zero_add]
    refine ec_if (EvT.then (ev_din hu (vd (i := 6) rfl rfl) (vc (i := 4) rfl rfl)) ⟨fun hb => Ev.then (ev_ix (vd (i := 1) rfl rfl) (vd (i := 6) rfl rfl) rfl (at0_get hin)) ⟨_, rfl, by rw [if_pos hb]⟩, fun hb => Ev.then (vd (i := 5) rfl rfl) ⟨_, rfl, by rw [if_neg (by rw [hb]; exact Bool.false_ne_true)]⟩⟩)
  · have eo := outs_map (f := fun i : Nat => Dat.int (if (getI kd (i : Int)).isSome then at0 h i else hi)) ho
    refine ⟨_, rfl, ?_⟩
    have := hΦ ((List.range W.n).map fun i : Nat => if (getI kd (i : Int)).isSome then at0 h i else hi) (by simp)
    unfold dInts at this
    rw [List.map_map] at this
    rw [eo]
    exact this
theorem ok_law_heights (F : Fun K "_law_heights" "_law_heights" s_law_heights f fd) (B : Bt mg) (h_law_draw : HasFn P w K mg base "_law_draw" 1 (spD DK sp_law_draw)) (h_law_pick : HasFn P w K mg base "_law_pick" 2 (spD DK sp_law_pick)) (h_law_sums : HasFn P w K mg base "_law_sums" 1 (spD CP sp_law_sums)) :
    FnOk P w K mg base CX0 3 f fd ["_law_deck_here", "_law_web", "_law_steps", "_law_p", "_law_q"] (spD DK sp_law_heights) := by
  refine fnD F sc_law_heights (by decide) (fun ws Φ ⟨i, l, p, q, m, h, _⟩ => by rw [h]; rfl) fun cdv A outer s0 H E G ws Φ hC hr hS => ?_
  obtain ⟨W, k, st, p, q, rfl, ok, hk, hp, hq, hΦ⟩ := hS
  have hu := hu_of hr
  have est : st.map Dat.int = (rowI st).map dOpt := by unfold rowI; rw [List.map_map]; rfl
  refine ss_cons (s_set (i := 5) (sc_law_heights).nd rfl (.inr rfl) (ec_call0 h_law_sums (hr.mono (by decide)) rfl (EvA.then (eva_cons (vd (i := 1) rfl rfl) (eva_cons (vl (i := 2) rfl rfl) (eva_cons (vd (i := 3) rfl rfl) eva_nil))) ⟨rfl, W, k, rowI st, p, by rw [est]; rfl, ok, by rw [rowI_len]; exact hk, hp, fun fx kd h1 h2 _ hkl => ⟨rfl, (fun z => nomatch z), rfl, ?_⟩⟩)))
  obtain ⟨z0, hz0, _⟩ := h2.zero
  have hpos : 0 < kd.length := by
    have e := h1.get p
    rw [hz0] at e
    exact List.length_pos_of_mem (getI_mem e)
  -- top
  refine ss_cons (s_set (i := 6) (sc_law_heights).nd rfl (.inr rfl) (EC.to (Φ := fun w => ∃ t : Int, w = .d (.int t)) ?tp ?_))
  case tp =>
    refine ec_dget2 hu (Ev.then (vc (i := 5) rfl rfl) ⟨_, kd, rfl, Ev.then (vd (i := 4) rfl rfl) ⟨(q : Int), rfl, ?_⟩⟩)
    refine ec_add (ec_maxL rfl rfl B.max (ec_lcVals (i := 5) (j := 8) (own := [("_law_at", 8)]) rfl (sc_law_heights).nd rfl (.inr (.inl rfl)) (by decide) rfl rfl (blkOk_by (N := N_law_heights) (sc := defScope s_law_heights) (by decide +kernel)) (fun s H C cl fp => pg_name (i := 8) (sc_law_heights).nd rfl (.inl rfl)) (fun s H C cl fp => pe_dget hu (pv 5) (pv 8) (by exact fun _ _ => rfl)) h1.isI hkl ?_ (by show 8 < 9; decide)))
    intro ns hns
    refine ⟨true, ns, rfl, by omega, fun mx _ _ => ⟨mx, rfl, ec_callD hC h_law_pick (hr.mono (by decide)) rfl (EvA.then (eva_cons (vk (i := 0) rfl rfl) (eva_cons (ev_lst (eva_cons ev_int (eva_cons ev_int (eva_cons (ev_powc ev_int ev_int ⟨by decide, by decide, by decide⟩) eva_nil))) (.cons (.cons (.cons .nil)))) eva_nil)) ⟨_, rfl, by simp, by simp, fun d hd => ?_⟩)⟩⟩
    obtain ⟨e, rfl⟩ : ∃ e : Int, d = .int e := by
      simp only [List.mem_cons, List.not_mem_nil, or_false] at hd
      rcases hd with rfl | rfl | rfl <;> exact ⟨_, rfl⟩
    refine ⟨e, rfl, _, rfl, ?_⟩
    have g := h1.get q
    cases hfq : fx q with
    | none => rw [hfq] at g; rw [show getI kd (q : Int) = none from g]; exact ⟨_, rfl⟩
    | some x => rw [hfq] at g; rw [show getI kd (q : Int) = some (.int x) from g]; exact ⟨_, rfl⟩
  rintro w0 ⟨t, rfl⟩
  refine ⟨rfl, ?_⟩
  have rest : ∀ t : Int, SS G (bx P w K mg base N_law_heights "_law_heights" s_law_heights f cdv A outer s0 H E) ((defBody s_law_heights).drop 3) [some .deck, some (.d (dWeb W)), some (.lst false (st.map Dat.int)), some (.d (dN p)), some (.d (dN q)), some (.dic true kd), some (.d (.int t)), none, none] { nx := fun _ => Φ (.d .non), rt := Φ } := fun t => by
    refine ss_cons (s_set (i := 7) (sc_law_heights).nd rfl (.inr rfl) (ec_neg (ec_callD hC h_law_draw (hr.mono (by decide)) rfl (EvA.then (eva_cons (vk (i := 0) rfl rfl) (eva_cons ev_int eva_nil)) ⟨3, rfl, by decide, by decide, fun lo h0 h1' => ⟨lo, rfl, rfl, ?_⟩⟩))))
    refine ss_one (s_ret (ec_tuple rfl B.tuple ?_))
    refine ec_lc (own := [("_law_at", 8)]) (List.range W.n) (fun i : Nat => Dat.int (0 + (i : Int))) (fun i r => ∃ y : Int, r = some (.int y)) pat_name rfl (sc_law_heights).nd (blkOk_by (N := N_law_heights) (sc := defScope s_law_heights) (by decide +kernel)) (by simp) (by have := ok.small; simp; omega) (fun s H C cl fp => pg_name (i := 8) (sc_law_heights).nd rfl (.inl rfl))
      (ei_range1 rfl B.range (Ev.then (ev_ix (vd (i := 1) rfl rfl) ev_int rfl rfl) ⟨(W.n : Int), rfl, by omega, by have := ok.small; omega, by simp [rangeD]⟩)) (fun i hi' => ⟨_, rfl, fun s H C cl fp => ets_nil ⟨fun _ s H C cl fp => ?_, fun e => nomatch e⟩⟩) fun out ho => ?_
    · rw [Int.zero_add]
      have g := h1.get i
      refine ec_if (EvT.then (ev_din hu (vd (i := 8) rfl rfl) (vc (i := 5) rfl rfl)) ⟨fun hb => ?_, fun hb => ?_⟩)
      · cases hfi : fx i with
        | none => rw [hfi] at g; rw [show getI kd (i : Int) = none from g] at hb; cases hb
        | some x =>
          rw [hfi] at g
          exact ec_min rfl rfl B.min (EvA.then (eva_cons (ev_dget hu (vc (i := 5) rfl rfl) (vd (i := 8) rfl rfl) g) (eva_cons (vd (i := 6) rfl rfl) eva_nil)) ⟨x, t, rfl, _, rfl, _, rfl⟩)
      · refine ec_callD hC h_law_pick (hr.mono (by decide)) rfl (EvA.then (eva_cons (vk (i := 0) rfl rfl) (eva_cons (ev_lst (eva_cons (vd (i := 6) rfl rfl) (eva_cons (vd (i := 6) rfl rfl) (eva_cons (vd (i := 7) rfl rfl) eva_nil))) (.cons (.cons (.cons .nil)))) eva_nil)) ⟨_, rfl, by simp, by simp, fun d hd => ?_⟩)
        simp only [List.mem_cons, List.not_mem_nil, or_false] at hd
        rcases hd with rfl | rfl | rfl <;> exact ⟨_, rfl, _, rfl⟩
    · obtain ⟨ys, rfl, e2⟩ := outs_exI (n := 0) (R := fun _ => True) ho
      exact ⟨_, rfl, hΦ ys (by simpa using e2)⟩
  refine ss_cons (s_if (et_cmpI op_eqI (nomark _) (ec_callD hC h_law_draw (hr.mono (by decide)) rfl (EvA.then (eva_cons (vk (i := 0) rfl rfl) (eva_cons ev_int eva_nil)) ⟨6, rfl, by decide, by decide, fun u h0 h1' => ⟨u, rfl, Ev.then ev_int ⟨0, rfl, fun hb => ?_, fun hb => ss_nil (rest t)⟩⟩⟩))))
  exact ss_one (s_set (i := 6) (sc_law_heights).nd rfl (.inr rfl) (Ev.then (ev_fdivc (vd (i := 6) rfl rfl) ev_int ⟨by decide, by decide⟩) ⟨rfl, rest _⟩))
theorem ok_law_own_over (F : Fun K "_law_own_over" "_law_own_over" s_law_own_over f fd) (B : Bt mg) (h_law_heights : HasFn P w K mg base "_law_heights" 3 (spD DK sp_law_heights)) (h_law_level : HasFn P w K mg base "_law_level" 2 (spD CP sp_law_level)) :
    FnOk P w K mg base CX0 4 f fd ["_law_deck_here", "_law_garden", "_law_p", "_law_q", "_law_n"] (spD DK sp_law_own_over) := by
  refine fnD F sc_law_own_over (by decide) (fun ws Φ ⟨i, l, p, q, m, h, _⟩ => by rw [h]; rfl) fun cdv A outer s0 H E G ws Φ hC hr hS => ?_
  obtain ⟨s, b, p, q, m, rfl, ok, hp, hq, hm, hΦ⟩ := hS
  have h3 := ok.book.three
  have e1 : List.replicate b.length (Dat.int 1) = (b.map fun _ => (1 : Int)).map Dat.int := by
    rw [row0_rep]; unfold ends; rw [List.map_map, List.map_map]; rfl
  refine ss_cons (s_par2c (i := 5) (j := 6) rfl (sc_law_own_over).nd rfl rfl (.inr rfl) (.inl rfl) (ec_repL (Ev.then (ev_lst (eva_cons ev_int eva_nil) (.cons .nil)) ⟨_, _, rfl, Ev.then (ev_len rfl B.len (ev_ix (vd (i := 1) rfl rfl) ev_int rfl rfl) rfl) ⟨_, rfl, by omega, by rw [List.length_map]; omega, rfl, Ev.then (ev_lst eva_nil .nil) ⟨rfl, ?_⟩⟩⟩)))
  rw [List.length_map, Int.toNat_natCast, e1]
  refine ss_cons (s_for pat_name rfl (pg_name (i := 7) (sc_law_own_over).nd rfl (.inl rfl)) PassesOwn.never (ei_range1 rfl B.range (Ev.then (vd (i := 4) rfl rfl) ⟨_, rfl, by omega, by omega,
    fun i ρ' => ∃ (st : List Int) (tabs : List (List (List Int))) (c7 c8 : Option Md.W), ρ' = [some .deck, some (.d (dGarden s b)), some (.d (dN p)), some (.d (dN q)), some (.d (dN m)), some (.lst true (st.map Dat.int)), some (.lst true (tabs.map dTabI)), c7, c8, none, none] ∧ st.length = b.length ∧ tabs.length = i ∧ (∀ t, t ∈ tabs → TabForm b t),
    ⟨_, [], _, _, rfl, by simp, rfl, fun t ht => by cases ht⟩, ?_, ?_⟩)))
  · rintro i dd ρ' hd ⟨st, tabs, c7, c8, rfl, hst, htl, hform⟩
    have hi : i < m := by have := (List.getElem?_eq_some_iff.mp hd).1; simpa [rangeD] using this
    refine ⟨_, rfl, ss_cons (s_set (i := 8) (sc_law_own_over).nd rfl (.inl rfl) (ec_tuple rfl B.tuple ?_))⟩
    refine ec_lc (own := [("_law_growth_here", 9)]) b dWeb (fun W r => ∃ h : List Int, r = some (dInts h) ∧ h.length = W.n) pat_name rfl (sc_law_own_over).nd (blkOk_by (N := N_law_own_over) (sc := defScope s_law_own_over) (by decide +kernel)) (by simp) (by omega) (fun s H C cl fp => pg_name (i := 9) (sc_law_own_over).nd rfl (.inl rfl))
      (ei_tup (Ev.then (ev_ix (vd (i := 1) rfl rfl) ev_int rfl rfl) ⟨_, rfl, rfl⟩)) (fun W hW => ⟨_, rfl, fun s H C cl fp => ets_nil ⟨fun _ s H C cl fp => ?_, fun e => nomatch e⟩⟩) fun out ho => ?_
    · obtain ⟨gok, g2⟩ := ok.book.each W hW
      refine ec_call0 h_law_level (hr.mono (by decide)) rfl (ea_cons (Ev.then (vd (i := 9) rfl rfl) (ea_cons (ec_callD hC h_law_heights (hr.mono (by decide)) rfl (EvA.then (eva_cons (vk (i := 0) rfl rfl) (eva_cons (vd (i := 9) rfl rfl) (eva_cons (vl (i := 5) rfl rfl) (eva_cons ev_int (eva_cons ev_int eva_nil))))) ⟨W, _, st, 0, 1, rfl, gok, by omega, by omega, by omega, fun h' hh' => ?_⟩)))))
      exact EvA.then (eva_cons ev_int (eva_cons ev_int eva_nil)) ⟨rfl, W, _, h', 0, 1, rfl, gok, h3, hh', by omega, by omega, fun h2 hh2 => ⟨rfl, (fun z => nomatch z), _, rfl, h2, rfl, hh2⟩⟩
    · obtain ⟨tab, e1, e2, e3⟩ := outs_ex ho
      have tf : TabForm b tab := ⟨e2, fun c W h hW hh => e3 c W h hW hh⟩
      subst e1
      refine ⟨_, rfl, rfl, ?_⟩
      refine ss_cons (s_set (i := 5) (sc_law_own_over).nd rfl (.inr rfl) ?_)
      refine ec_lc (own := [("_law_it", 10)]) tab dInts (fun h r => r = some (.int (at0 h 1))) pat_name rfl (sc_law_own_over).nd (blkOk_by (N := N_law_own_over) (sc := defScope s_law_own_over) (by decide +kernel)) (by simp) (by omega) (fun s H C cl fp => pg_name (i := 10) (sc_law_own_over).nd rfl (.inl rfl))
        (ei_tup (Ev.then (vd (i := 8) rfl rfl) ⟨_, rfl, rfl⟩)) (fun hh hm => ⟨_, rfl, fun s H C cl fp => ets_nil ⟨fun _ s H C cl fp => ?_, fun e => nomatch e⟩⟩) fun out ho => ?_
      · obtain ⟨c, hc⟩ := List.getElem?_of_mem hm
        have hcb : c < b.length := by have := (List.getElem?_eq_some_iff.mp hc).1; omega
        have hl2 := tf.2 c _ hh (bAt_get hcb) hc
        have := (ok.book.each (bAt b c) (List.mem_of_getElem? (bAt_get hcb))).2
        exact Ev.then (ev_ix (vd (i := 10) rfl rfl) ev_int rfl (at0_get (i := 1) (by omega))) ⟨_, rfl, rfl⟩
      · have eo := outs_map (f := fun h => Dat.int (at0 h 1)) ho
        have eo2 : out = (ovSt tab).map Dat.int := by rw [eo]; unfold ovSt; rw [List.map_map]; rfl
        subst eo2
        refine ⟨rfl, ss_one (s_app (i := 6) rfl (.inl rfl) rfl (by rw [List.length_map]; omega) (Ev.then (vd (i := 8) rfl rfl) ⟨_, rfl, ovSt tab, tabs ++ [tab], some (.d dd), some (.d (dTabI tab)), ?_, by unfold ovSt; rw [List.length_map]; exact e2, by simp [htl], fun t ht => ?_⟩))⟩
        · rw [List.map_append]; rfl
        · rcases List.mem_append.mp ht with h | h
          · exact hform t h
          · rw [List.mem_singleton.mp h]; exact tf
  · rintro ρ' ⟨st, tabs, c7, c8, rfl, hst, htl, hform⟩
    have : (rangeD 0 ((m : Nat) : Int).toNat).length = m := by simp [rangeD]
    rw [this] at htl
    refine ss_one (s_ret (ec_tup (ea_cons (Ev.then (ev_tuple rfl B.tuple (vl (i := 6) rfl rfl) rfl) (ea_cons ?_)))))
    refine ec_call0 h_law_level (hr.mono (by decide)) rfl (ea_cons (Ev.then (ev_ix (vd (i := 1) rfl rfl) ev_int rfl rfl) (ea_cons (ec_callD hC h_law_heights (hr.mono (by decide)) rfl (EvA.then (eva_cons (vk (i := 0) rfl rfl) (eva_cons (ev_ix (vd (i := 1) rfl rfl) ev_int rfl rfl) (eva_cons (vl (i := 5) rfl rfl) (eva_cons (vd (i := 2) rfl rfl) (eva_cons (vd (i := 3) rfl rfl) eva_nil))))) ⟨s, _, st, p, q, rfl, ok.start, by omega, hp, hq, fun h' hh' => ?_⟩)))))
    exact EvA.then (eva_cons (vd (i := 2) rfl rfl) (eva_cons (vd (i := 3) rfl rfl) eva_nil)) ⟨rfl, s, _, h', p, q, rfl, ok.start, h3, hh', hp, hq, fun h2 hh2 => ⟨rfl, (fun z => nomatch z), ea_nil ⟨_, .cons (.cons .nil), by simp, hΦ tabs h2 htl hform hh2⟩⟩⟩
end
end Md
end P12Part
section P13Part
set_option Elab.async false
set_option linter.all false
set_option maxRecDepth 100000
set_option maxHeartbeats 4000000
set_option pp.maxSteps 400
/-! the law's own ways -/
namespace Md
open PySem L2
def sp_law_some_way : Spec := fun ws Φ => ∃ (W : Web) (r : Row) (p q : Nat), ws = [.deck, .d (dWeb W), .lst false (r.map dOpt), .d (dN p), .d (dN q)] ∧ W.Ok r.length ∧ p < W.n ∧ q < W.n ∧ ∀ it : Item, (∀ ns, it = some ns → ∃ x, WayTo W r p q ns x) → Φ (.d (dItem it))
/-- ways found so far: valid ones, over places that have been found -/
structure WsOk (W : Web) (r : Row) (p : Nat) (kd : List (Int × Dat)) : Prop where
  way : ∀ k d, getI kd k = some d → ∃ (v : Nat) (ns : List Nat), k = (v : Int) ∧ v < W.n ∧ d = .tup (ns.map dN) ∧ ∃ ms x, Wy W r p ns ms x ∧ (p :: ms).Nodup ∧ ms.getLastD p = v ∧ ∀ u, u ∈ p :: ms → (getI kd (u : Int)).isSome = true
  nd : (kd.map (·.1)).Nodup
theorem getI_none {kd : List (Int × Dat)} {k : Int} (h : getI kd k = none) : k ∉ kd.map (·.1) := fun hm => by
  obtain ⟨p, hp, rfl⟩ := List.mem_map.mp hm
  obtain ⟨d', e⟩ := getI_has (kd := kd) (k := p.1) (d := p.2) hp
  rw [e] at h; cases h
theorem putI_new {kd : List (Int × Dat)} {k : Int} {d : Dat} (h : getI kd k = none) : putI kd k d = kd ++ [(k, d)] := by
  unfold putI
  rw [getI_any, h]
  exact if_neg (by decide)
theorem WsOk.few {W : Web} {r : Row} {p : Nat} {kd : List (Int × Dat)} (h : WsOk W r p kd) : kd.length ≤ W.n := by
  have h1 : ((kd.map (·.1)).map Int.toNat).Nodup := by
    show List.Pairwise _ _
    rw [List.pairwise_map]
    refine List.Pairwise.imp_of_mem (fun {a b} ha hb hab e => hab ?_) h.nd
    obtain ⟨pa, hpa, rfl⟩ := List.mem_map.mp ha
    obtain ⟨pb, hpb, rfl⟩ := List.mem_map.mp hb
    obtain ⟨da, ea⟩ := getI_has (kd := kd) (k := pa.1) (d := pa.2) hpa
    obtain ⟨db, eb⟩ := getI_has (kd := kd) (k := pb.1) (d := pb.2) hpb
    obtain ⟨va, _, e1, _⟩ := h.way _ _ ea
    obtain ⟨vb, _, e2, _⟩ := h.way _ _ eb
    omega
  have := nodup_len (n := W.n) h1 fun u hu => by
    obtain ⟨k, hk, rfl⟩ := List.mem_map.mp hu
    obtain ⟨pa, hpa, rfl⟩ := List.mem_map.mp hk
    obtain ⟨da, ea⟩ := getI_has (kd := kd) (k := pa.1) (d := pa.2) hpa
    obtain ⟨va, _, e1, hv, _⟩ := h.way _ _ ea
    omega
  simpa using this
theorem ws_start {W : Web} {r : Row} {p : Nat} (hp : p < W.n) : WsOk W r p [((p : Int), .tup [])] := by
  refine ⟨fun k d e => ?_, by simp⟩
  by_cases hk : (p : Int) = k
  · rw [getI_pos (by exact hk)] at e
    cases e
    exact ⟨p, [], hk.symm, hp, rfl, [], 0, .nil, by simp, rfl, fun u hu => by
      rw [List.mem_singleton.mp hu, getI_pos rfl]; rfl⟩
  · rw [getI_neg (by exact hk)] at e; cases e
theorem ws_put {W : Web} {r : Row} {p a u j : Nat} {t : Tie} {l : Int} {kd : List (Int × Dat)} {ns : List Nat} (ok : W.Ok r.length) (h : WsOk W r p kd) (ha : getI kd (a : Int) = some (.tup (ns.map dN))) (hj : W.ts[j]? = some t) (o : Other t a u) (hl : r.at t.2.2 = some l) (hu : getI kd (u : Int) = none) :
    WsOk W r p (putI kd (u : Int) (.tup (ns.map dN ++ [dN j]))) := by
  obtain ⟨v, ns', e1, hv, e2, ms, x, wy, nd, la, al⟩ := h.way _ _ ha
  have ev : v = a := by omega
  subst ev
  have en : ns' = ns := by
    have : ns.map dN = ns'.map dN := by injection e2
    have inj : ∀ (a b : List Nat), a.map dN = b.map dN → a = b := fun a => by
      induction a with
      | nil => intro b hb; cases b with | nil => rfl | cons y b => cases hb
      | cons x a ih =>
        intro b hb
        cases b with
        | nil => cases hb
        | cons y b =>
          simp only [List.map_cons, List.cons.injEq] at hb
          obtain ⟨h1, h2⟩ := hb
          have : x = y := by injection h1 with h1; omega
          rw [this, ih b h2]
    exact (inj _ _ this).symm
  subst en
  have hun : u < W.n := o.inn ok (List.mem_of_getElem? hj)
  have hup : u ∉ p :: ms := fun m => by have := al u m; rw [hu] at this; cases this
  refine ⟨fun k d e => ?_, ?_⟩
  · rw [getI_put] at e
    by_cases hk : k = (u : Int)
    · rw [if_pos hk] at e
      cases e
      refine ⟨u, ns' ++ [j], hk, hun, by rw [List.map_append]; rfl, ms ++ [u], x + l, wy.snoc la hj o hl, ?_, by simp [List.getLastD_eq_getLast?], fun w hw => ?_⟩
      · rw [← List.cons_append, List.nodup_append]
        refine ⟨nd, by simp, fun a ha b hb => ?_⟩
        simp at hb
        subst hb
        intro z
        subst z
        exact hup ha
      · rw [getI_put]
        by_cases hwu : (w : Int) = (u : Int)
        · rw [if_pos hwu]; rfl
        · rw [if_neg hwu]
          rw [← List.cons_append] at hw
          rcases List.mem_append.mp hw with hw | hw
          · exact al w hw
          · exact absurd (by rw [List.mem_singleton.mp hw]) hwu
    · rw [if_neg hk] at e
      obtain ⟨v', ns2, f1, f2, f3, ms2, x2, f4, f5, f6, f7⟩ := h.way k d e
      exact ⟨v', ns2, f1, f2, f3, ms2, x2, f4, f5, f6, fun w hw => by
        rw [getI_put]
        by_cases hwu : (w : Int) = (u : Int)
        · rw [if_pos hwu]; rfl
        · rw [if_neg hwu]; exact f7 w hw⟩
  · rw [putI_new hu, List.map_append, List.nodup_append]
    refine ⟨h.nd, by simp, fun a ha b hb => ?_⟩
    simp at hb
    subst hb
    intro z
    subst z
    exact getI_none hu ha
theorem put_has {kd : List (Int × Dat)} {k j : Int} {d : Dat} (h : (getI kd j).isSome = true) : (getI (putI kd k d) j).isSome = true := by
  rw [getI_put]
  by_cases e : j = k
  · rw [if_pos e]; rfl
  · rw [if_neg e]; exact h
section
variable {P : Program} {w : World} {K : PySem.W.Frag} {mg : Str → Option Value} {base : Heap} {f : Addr} {fd : FuncData}
abbrev SwE (W : Web) (r : Row) (p q : Nat) (c5 : Option Md.W) (kd : List (Int × Dat)) (c7 : Option Md.W) (js : List Nat) (c9 c10 c11 c12 c13 c14 c15 c16 : Option Md.W) : Env1 :=
  [some .deck, some (.d (dWeb W)), some (.lst false (r.map dOpt)), some (.d (dN p)), some (.d (dN q)), c5, some (.dic true kd), c7, some (.lst false (js.map dN)), c9, c10, c11, c12, c13, c14, c15, c16]
theorem ok_law_some_way (F : Fun K "_law_some_way" "_law_some_way" s_law_some_way f fd) (B : Bt mg) (h_law_draw : HasFn P w K mg base "_law_draw" 1 (spD DK sp_law_draw)) : FnOk P w K mg base CX0 2 f fd ["_law_deck_here", "_law_web", "_law_sizes", "_law_p", "_law_q"] (spD DK sp_law_some_way) := by
  refine fnD F sc_law_some_way (by decide) (fun ws Φ ⟨i, l, p, q, h, _⟩ => by rw [h]; rfl) fun cdv A outer s0 H E G ws Φ hC hr hS => ?_
  obtain ⟨W, r, p, q, rfl, ok, hp, hq, hΦ⟩ := hS
  have hu := hu_of hr
  have hn7 := ok.small
  have hts := ok.few
  refine ss_cons (s_par3 (i := 5) (j := 6) (m := 7) rfl (sc_law_some_way).nd rfl rfl rfl (by decide) (by decide) (by decide) rfl rfl rfl (ec_callD hC h_law_draw (hr.mono (by decide)) rfl (EvA.then (eva_cons (vk (i := 0) rfl rfl) (eva_cons (ev_add (ev_len rfl B.len (ev_ix (vd (i := 1) rfl rfl) ev_int rfl rfl) rfl) ev_int) eva_nil)) ⟨_, rfl, by omega, by rw [List.length_map]; omega, fun turn h0 h1 => ⟨rfl,
    ec_disp1 (Ev.then (vd (i := 3) rfl rfl) ⟨_, rfl, Ev.then (ev_tup eva_nil .nil) ⟨_, rfl, rfl, Ev.then (ev_lst (eva_cons (vd (i := 3) rfl rfl) eva_nil) (.cons .nil)) ⟨rfl, ?_⟩⟩⟩)⟩⟩)))
  have er : rangeD 0 ((W.ts.length : Nat) : Int).toNat = (List.range W.ts.length).map dN := by
    unfold rangeD
    rw [Int.toNat_natCast]
    congr 1
    funext i
    show Dat.int (0 + (i : Int)) = Dat.int (i : Int)
    rw [Int.zero_add]
  refine ss_cons (s_set (i := 8) (sc_law_some_way).nd rfl (.inl rfl) (ec_catL (ec_sliceFrom (ec_listR rfl rfl B.list rfl B.range (Ev.then (ev_len rfl B.len (ev_ix (vd (i := 1) rfl rfl) ev_int rfl rfl) rfl) ⟨_, rfl, by omega, by rw [List.length_map]; omega, _, _, rfl, Ev.then (vd (i := 5) rfl rfl) ⟨turn, rfl, _, _, rfl,
    ec_sliceTo (ec_listR rfl rfl B.list rfl B.range (Ev.then (ev_len rfl B.len (ev_ix (vd (i := 1) rfl rfl) ev_int rfl rfl) rfl) ⟨_, rfl, by omega, by rw [List.length_map]; omega, _, _, rfl, Ev.then (vd (i := 5) rfl rfl) ⟨turn, rfl, _, _, rfl, ?_, rfl, ?_⟩⟩))⟩⟩)))))
  · rw [List.length_map, er, List.length_drop, List.length_take, List.length_map, List.length_range]; omega
  rw [List.length_map, er, ← List.map_drop, ← List.map_take, ← List.map_append]
  generalize hjs : (List.range W.ts.length).drop _ ++ (List.range W.ts.length).take _ = js
  have hjlt : ∀ j, j ∈ js → j < W.ts.length := fun j hj => by
    rw [← hjs] at hj
    rcases List.mem_append.mp hj with h | h
    · exact List.mem_range.mp (List.mem_of_mem_drop h)
    · exact List.mem_range.mp (List.mem_of_mem_take h)
  refine ss_cons (S1.frz 8 (s_for pat_name rfl (pg_name (i := 9) (sc_law_some_way).nd rfl (.inl rfl)) PassesOwn.never (ei_range1 rfl B.range (Ev.then (ev_ix (vd (i := 1) rfl rfl) ev_int rfl rfl) ⟨(W.n : Int), rfl, by omega, by omega,
    fun i ρ' => ∃ (kd : List (Int × Dat)) (ed : List Nat) (c5 c9 c10 c11 c12 c13 c14 c15 c16 : Option Md.W), ρ' = SwE W r p q c5 kd (some (.lst true (ed.map dN))) js c9 c10 c11 c12 c13 c14 c15 c16 ∧ WsOk W r p kd ∧ (∀ a, a ∈ ed → (getI kd (a : Int)).isSome = true) ∧ ed.length ≤ 10,
    ⟨[((p : Int), .tup [])], [p], _, _, _, _, _, _, _, _, _, rfl, ws_start hp, fun a ha => by rw [List.mem_singleton.mp ha, getI_pos rfl]; rfl, by simp⟩, ?_, ?_⟩))))
  · rintro i dd ρ' hd ⟨kd, ed, c5, c9, c10, c11, c12, c13, c14, c15, c16, rfl, ws, hed, hel⟩
    refine ⟨_, rfl, ?_⟩
    refine ss_cons (s_set (i := 10) (sc_law_some_way).nd rfl (.inl rfl) (Ev.then (ev_lst eva_nil .nil) ⟨rfl, ?_⟩))
    refine ss_cons (S1.frz 7 (s_for pat_name rfl (pg_name (i := 11) (sc_law_some_way).nd rfl (.inl rfl)) PassesOwn.never (ei_var (i := 7) rfl (.inl rfl) rfl
      ⟨fun j ρ' => ∃ (kd : List (Int × Dat)) (lt : List Nat) (c9 c11 c12 c13 c14 c15 c16 : Option Md.W), ρ' = SwE W r p q c5 kd (some (.lst false (ed.map dN))) js c9 (some (.lst true (lt.map dN))) c11 c12 c13 c14 c15 c16 ∧ WsOk W r p kd ∧ (∀ a, a ∈ ed → (getI kd (a : Int)).isSome = true) ∧ (∀ a, a ∈ lt → (getI kd (a : Int)).isSome = true) ∧ lt.length ≤ kd.length,
        ⟨kd, [], _, _, _, _, _, _, _, rfl, ws, hed, (fun a ha => by cases ha), by simp⟩, ?_, ?_⟩)))
    · rintro j d2 ρ' hd2 ⟨kd, lt, c9, c11, c12, c13, c14, c15, c16, rfl, ws, hed, hlt, hll⟩
      rw [List.getElem?_map] at hd2
      obtain ⟨a, ha, rfl⟩ : ∃ a, ed[j]? = some a ∧ d2 = dN a := by
        cases h : ed[j]? with
        | none => rw [h] at hd2; cases hd2
        | some t => rw [h] at hd2; exact ⟨t, rfl, (Option.some.inj hd2).symm⟩
      have ham := List.mem_of_getElem? ha
      refine ⟨_, rfl, ?_⟩
      refine ss_one (s_for pat_name rfl (pg_name (i := 12) (sc_law_some_way).nd rfl (.inl rfl)) PassesOwn.never (ei_var (i := 8) rfl (.inl rfl) rfl
        ⟨fun m ρ' => ∃ (kd : List (Int × Dat)) (lt : List Nat) (c9 c12 c13 c14 c15 c16 : Option Md.W), ρ' = SwE W r p q c5 kd (some (.lst false (ed.map dN))) js c9 (some (.lst true (lt.map dN))) (some (.d (dN a))) c12 c13 c14 c15 c16 ∧ WsOk W r p kd ∧ (∀ a, a ∈ ed → (getI kd (a : Int)).isSome = true) ∧ (∀ a, a ∈ lt → (getI kd (a : Int)).isSome = true) ∧ lt.length ≤ kd.length,
          ⟨kd, lt, _, _, _, _, _, _, rfl, ws, hed, hlt, hll⟩, ?_, ?_⟩))
      · rintro m d3 ρ' hd3 ⟨kd, lt, c9, c12, c13, c14, c15, c16, rfl, ws, hed, hlt, hll⟩
        rw [List.getElem?_map] at hd3
        obtain ⟨nb, hnb, rfl⟩ : ∃ a, js[m]? = some a ∧ d3 = dN a := by
          cases h : js[m]? with
          | none => rw [h] at hd3; cases hd3
          | some t => rw [h] at hd3; exact ⟨t, rfl, (Option.some.inj hd3).symm⟩
        have hnl := hjlt nb (List.mem_of_getElem? hnb)
        obtain ⟨t, ht⟩ : ∃ t, W.ts[nb]? = some t := ⟨_, List.getElem?_eq_getElem hnl⟩
        obtain ⟨t1, t2, t3, t4⟩ := ok.ties t (List.mem_of_getElem? ht)
        have gr : atI (r.map dOpt) (t.2.2 : Int) = some (dOpt (r.at t.2.2)) := atI_row t4
        refine ⟨_, rfl, ?_⟩
        refine ss_cons (s_pat pat_three (pg_tup rfl (pgs_cons (pg_name (i := 13) (sc_law_some_way).nd rfl (.inl rfl)) (pgs_cons (pg_name (i := 14) (sc_law_some_way).nd rfl (.inl rfl)) (pgs_cons (pg_name (i := 15) (sc_law_some_way).nd rfl (.inl rfl)) pgs_nil)))) (Ev.then (ev_ix (ev_ix (vd (i := 1) rfl rfl) ev_int rfl rfl) (vd (i := 12) rfl rfl) rfl (atI_map (f := dTie) ht)) ⟨_, _, rfl, ⟨_, _, _, rfl, rfl⟩, ?_⟩))
        obtain ⟨u, hu'⟩ : ∃ u, u = if a = t.1 then t.2.1 else t.1 := ⟨_, rfl⟩
        have hun : u < W.n := by rw [hu']; split <;> assumption
        refine ss_cons (s_set (i := 16) (sc_law_some_way).nd rfl (.inl rfl) (Ev.then (w := .d (dN u)) (ec_if (EvT.then (et_eqI (vd (i := 11) rfl rfl) (vd (i := 13) rfl rfl)) ⟨fun hz => Ev.is (vd (i := 14) rfl rfl) ?f1, fun hz => Ev.is (vd (i := 13) rfl rfl) ?f2⟩)) ⟨rfl, ?_⟩))
        case f1 => rw [hu', if_pos (by have := of_decide_eq_true hz; omega)]
        case f2 => rw [hu', if_neg (by have := of_decide_eq_false hz; omega)]
        have opt : ∀ o : Option Int, o = none ∨ ∃ l, o = some l := fun o => by cases o with | none => exact .inl rfl | some l => exact .inr ⟨l, rfl⟩
        have stay : ∃ (kd' : List (Int × Dat)) (lt' : List Nat) (c9' c12 c13 c14 c15 c16 : Option Md.W), SwE W r p q c5 kd (some (.lst false (ed.map dN))) js c9 (some (.lst true (lt.map dN))) (some (.d (dN a))) (some (.d (dN nb))) (some (.d (dN t.1))) (some (.d (dN t.2.1))) (some (.d (dN t.2.2))) (some (.d (dN u))) = SwE W r p q c5 kd' (some (.lst false (ed.map dN))) js c9' (some (.lst true (lt'.map dN))) (some (.d (dN a))) c12 c13 c14 c15 c16 ∧ WsOk W r p kd' ∧ (∀ a, a ∈ ed → (getI kd' (a : Int)).isSome = true) ∧ (∀ a, a ∈ lt' → (getI kd' (a : Int)).isSome = true) ∧ lt'.length ≤ kd'.length := ⟨kd, lt, c9, _, _, _, _, _, rfl, ws, hed, hlt, hll⟩
        by_cases hO : a = t.1 ∨ a = t.2.1
        · have oth : Other t a u := by
            rcases hO with e | e
            · exact .inl ⟨e, by rw [hu', if_pos e]⟩
            · by_cases e1 : a = t.1
              · exact .inl ⟨e1, by rw [hu', if_pos e1]⟩
              · exact .inr ⟨e, by rw [hu', if_neg e1]⟩
          rcases opt (r.at t.2.2) with hl | ⟨l, hl⟩
          · rw [hl] at gr
            exact ss_one (s_ifF (EvT.is (evT_and3 (q := false) (r := false) (et_in2 (vd (i := 11) rfl rfl) (vd (i := 13) rfl rfl) (vd (i := 14) rfl rfl)) (fun _ => et_notN (ev_ix (vl (i := 2) rfl rfl) (vd (i := 15) rfl rfl) rfl gr)) (fun _ z => nomatch z)) (by simp)) (ss_nil stay))
          · rw [hl] at gr
            cases hgu : (getI kd (u : Int)) with
            | some d' =>
              exact ss_one (s_ifF (EvT.is (evT_and3 (et_in2 (vd (i := 11) rfl rfl) (vd (i := 13) rfl rfl) (vd (i := 14) rfl rfl)) (fun _ => et_notN (ev_ix (vl (i := 2) rfl rfl) (vd (i := 15) rfl rfl) rfl gr)) (fun _ _ => EvT.is (ev_dnotin hu (vd (i := 16) rfl rfl) (vc (i := 6) rfl rfl)) (u := false) (by rw [hgu]; rfl))) (by simp)) (ss_nil stay))
            | none =>
              have hga := hed a ham
              cases hga' : getI kd (a : Int) with
              | none => rw [hga'] at hga; cases hga
              | some da =>
                obtain ⟨v, ns, e1, hv, rfl, _⟩ := ws.way _ _ hga'
                have ws2 := ws_put ok ws hga' ht oth hl hgu
                have hk7 := ws.few
                have hns : ns.length ≤ 10 := by
                  obtain ⟨v', ns', f1, f2, f3, ms, x, f4, f5, f6, f7⟩ := ws.way _ _ hga'
                  have h1 := WayTo.few ok hp ⟨ms, f4, f5, f6⟩
                  have : ns.map dN = ns'.map dN := by injection f3
                  have := congrArg List.length this
                  simp at this
                  omega
                refine ss_one (s_ifT (EvT.is (evT_and3 (et_in2 (vd (i := 11) rfl rfl) (vd (i := 13) rfl rfl) (vd (i := 14) rfl rfl)) (fun _ => et_notN (ev_ix (vl (i := 2) rfl rfl) (vd (i := 15) rfl rfl) rfl gr)) (fun _ _ => EvT.is (ev_dnotin hu (vd (i := 16) rfl rfl) (vc (i := 6) rfl rfl)) (u := true) (by rw [hgu]; rfl))) (by simp [hO, dOpt, isNon])) ?_)
                refine ss_cons (s_dput hu (i := 6) rfl (.inl rfl) rfl (by omega) (ec_catT (Ev.then (ev_dget hu (vc (i := 6) rfl rfl) (vd (i := 11) rfl rfl) hga') ⟨_, rfl, Ev.then (ev_tup (eva_cons (vd (i := 12) rfl rfl) eva_nil) (.cons .nil)) ⟨_, rfl, by simp; omega, _, rfl, Ev.then (vd (i := 16) rfl rfl) ⟨(u : Int), rfl, ?_⟩⟩⟩)))
                refine ss_one (s_app (i := 10) rfl (.inl rfl) rfl (by rw [List.length_map]; omega) (Ev.then (vd (i := 16) rfl rfl) ⟨_, rfl, putI kd (u : Int) (.tup (ns.map dN ++ [dN nb])), lt ++ [u], c9, some (.d (dN nb)), some (.d (dN t.1)), some (.d (dN t.2.1)), some (.d (dN t.2.2)), some (.d (dN u)), ?_, ws2, fun b hb => put_has (hed b hb), fun b hb => ?_, ?_⟩))
                · have : (lt ++ [u]).map dN = lt.map dN ++ [dN u] := by simp
                  unfold SwE
                  rw [this]
                  rfl
                · rcases List.mem_append.mp hb with h | h
                  · exact put_has (hlt b h)
                  · rw [List.mem_singleton.mp h, getI_put, if_pos rfl]; rfl
                · rw [putI_new hgu]; simp; omega
        · exact ss_one (s_ifF (EvT.is (evT_and3 (q := false) (r := false) (et_in2 (vd (i := 11) rfl rfl) (vd (i := 13) rfl rfl) (vd (i := 14) rfl rfl)) (fun z => absurd (of_decide_eq_true z) hO) (fun z => absurd (of_decide_eq_true z) hO)) (by simp)) (ss_nil stay))
      · rintro ρ' ⟨kd, lt, c9, c12, c13, c14, c15, c16, rfl, ws, hed, hlt, hll⟩
        exact ⟨kd, lt, _, _, _, _, _, _, _, rfl, ws, hed, hlt, hll⟩
    · rintro ρ' ⟨kd, lt, c9, c11, c12, c13, c14, c15, c16, rfl, ws, hed, hlt, hll⟩
      have hk7 := ws.few
      exact ss_one (s_move (i := 7) (j := 10) (sc_law_some_way).nd rfl (.inl rfl) rfl (.inl rfl) (by decide) rfl ⟨kd, lt, _, _, _, _, _, _, _, _, _, rfl, ws, hlt, by omega⟩)
  · rintro ρ' ⟨kd, ed, c5, c9, c10, c11, c12, c13, c14, c15, c16, rfl, ws, hed, hel⟩
    refine ss_one (s_ret (ec_dget1 hu (Ev.then (vc (i := 6) rfl rfl) ⟨_, kd, rfl, Ev.then (vd (i := 4) rfl rfl) ⟨(q : Int), rfl, ?_⟩⟩)))
    cases e : getI kd (q : Int) with
    | none => exact hΦ none fun ns z => nomatch z
    | some d =>
      obtain ⟨v, ns, e1, hv, rfl, ms, x, f4, f5, f6, f7⟩ := ws.way _ _ e
      have : v = q := by omega
      subst this
      exact hΦ (some ns) fun ns' z => by cases z; exact ⟨x, ms, f4, f5, f6⟩
end
end Md
end P13Part
section MdLzPart
set_option Elab.async false
set_option linter.all false
set_option maxRecDepth 100000
set_option maxHeartbeats 4000000
set_option pp.maxSteps 400
/-! list(zip(..)): the walk -/
namespace PySem
open Sem (wp)
open PySem.W (KdxIt kdx_alive)
section
variable {prog : Program} {w : World} {A : Around} {E : Value → Shared → Prop} {s : Shared} {z TI TO i1 i2 T : Addr} {fp1 fp2 : List Addr} {n1 n2 i : Nat} {P1 P2 : Nat → Value → Prop} {St1 St2 : Nat → Heap → Prop} {f : Bool} {oT : Obj}
theorem zipH_next_item {Q : Value → Shared → Prop} (S : ZipSep2 z TI TO i1 i2 fp1 fp2) (D1 : Draws prog w A i1 fp1 n1 P1 St1) (D2 : Draws prog w A i2 fp2 n2 P2 St2)
    (hz : IsZipHeld s.heap z TI TO T f) (hT : s.heap.get? T = some oT) (hTI : IsTupOf2 s.heap TI (.ref i1) (.ref i2)) (st1 : St1 i s.heap) (st2 : St2 i s.heap) (hlt1 : i < n1) (hlt2 : i < n2)
    (hQ : ∀ x1 x2 h' tk, P1 i x1 → P2 i x2 → IsZipHeld h' z TI TO T true → St1 (i + 1) h' → St2 (i + 1) h' → IsTupOf2 h' s.heap.objs.size x1 x2 → h'.objs.size = s.heap.objs.size + 1 →
      (∀ c o, c ≠ z → c ≠ i1 → c ≠ i2 → s.heap.get? c = some o → h'.get? c = some o) → Q (.ref s.heap.objs.size) { s with heap := h', toks := tk }) :
    wpAny (model prog w) A (Builtin.«zip.__next__» ⟨[.ref z], []⟩) (fun fin s' => ∃ v, fin = .done (.ret v) ∧ Q v s') E s := by
  obtain ⟨hp, g, d, tk0, os⟩ := s
  show wpAny _ _ (field (.ref z) 2 >>= _) _ _ _
  refine wpAny_bind (wpAny_field hz rfl (x := .bool false) rfl ?_)
  show wpAny _ _ (field (.ref z) 3 >>= _) _ _ _
  refine wpAny_bind (wpAny_field hz rfl (x := .ref TI) rfl ?_)
  refine wpAny_bind (wpAny_seqItems hTI rfl ?_)
  show wpAny _ _ (Builtin.SmallTypes.ownedTupleIsFree (.ref z) >>= _) _ _ _
  refine wpAny_bind (wpAny_tupleHeld_zip hz hT fun g0 hz0 hs0 => ?_)
  replace hs0 : Heap.SameBut z hp g0 := hs0
  simp only [Bool.false_eq_true, if_false]
  refine wpAny_bind ?_
  rw [← Array.forIn_toList]
  simp only [List.forIn_cons, List.forIn_nil]
  refine wpAny_bind (wpAny_bind (wpAny_holding ?_))
  show wpAny _ _ (Builtin.SmallTypes.nextOf (.ref i1) >>= _) _ _ ⟨g0, g, d, tk0, os⟩
  refine wpAny_bind (D1.item i _ _ _ hlt1 (D1.over st1 hs0 S.zf1) fun x1 p1 tk1 hx1 sn1 hp1 => wpAny_pure ?_)
  replace hp1 : Heap.SameBut i1 g0 p1 := hp1
  refine wpAny_pure ?_
  refine wpAny_bind (wpAny_bind (wpAny_holding ?_))
  show wpAny _ _ (Builtin.SmallTypes.nextOf (.ref i2) >>= _) _ _ ⟨p1, g, d, tk1, os⟩
  refine wpAny_bind (D2.item i _ _ _ hlt2 (D2.over (D2.over st2 hs0 S.zf2) hp1 S.sep1_2) fun x2 p2 tk2 hx2 sn2 hp2 => wpAny_pure ?_)
  replace hp2 : Heap.SameBut i2 p1 p2 := hp2
  refine wpAny_pure (wpAny_pure ?_)
  show wpAny _ _ (newTuple [x1, x2] >>= _) _ _ ⟨p2, g, d, tk2, os⟩
  refine wpAny_bind (wpAny_newTuple ?_)
  have hsz : p2.objs.size = hp.objs.size := by rw [hp2.1, hp1.1, hs0.1]
  have hzz : IsZipHeld p2 z TI TO T true := hp2.extBut _ _ S.zi2 (hp1.extBut _ _ S.zi1 hz0)
  have hkk : ∀ c o, c ≠ z → c ≠ i1 → c ≠ i2 → hp.get? c = some o → p2.get? c = some o := fun c o cz c1 c2 e => hp2.extBut _ _ c2 (hp1.extBut _ _ c1 (hs0.extBut _ _ cz e))
  refine wpAny_pure ⟨_, rfl, ?_⟩
  show Q (.ref p2.objs.size) _
  have hp' : IsTupOf2 (p2.push { cls := .type "tuple", data := .seq #[x1, x2] }) p2.objs.size x1 x2 := Heap.get?_push_size _ rfl
  have hz4 : (p2.push { cls := .type "tuple", data := .seq #[x1, x2] }).objs.size = p2.objs.size + 1 := Heap.size_push ..
  rw [hsz] at hp' hz4 ⊢
  exact hQ x1 x2 _ tk2 hx1 hx2 (Heap.get?_push_of_some _ hzz) (D1.frame _ _ _ (D1.over sn1 hp2 S.sep2_1) fun b _ o e => Heap.get?_push_of_some _ e) (D2.frame _ _ _ sn2 fun b _ o e => Heap.get?_push_of_some _ e) hp' hz4 fun c o c1 c2 c3 e => Heap.get?_push_of_some _ (hkk c o c1 c2 c3 e)
theorem zipH_next_end {n : Nat} {Q : Fin → Shared → Prop} (S : ZipSep2 z TI TO i1 i2 fp1 fp2) (D1 : Draws prog w A i1 fp1 n P1 St1)
    (hz : IsZipHeld s.heap z TI TO T f) (hT : s.heap.get? T = some oT) (hTI : IsTupOf2 s.heap TI (.ref i1) (.ref i2)) (st1 : St1 n s.heap)
    (hE : ∀ h' tk e, (∀ c o, c ≠ z → c ≠ i1 → c ≠ i2 → s.heap.get? c = some o → h'.get? c = some o) → (∃ o, h'.get? e = some o ∧ o.cls = .type "StopIteration") → E (.ref e) { s with heap := h', toks := tk }) :
    wpAny (model prog w) A (Builtin.«zip.__next__» ⟨[.ref z], []⟩) Q E s := by
  obtain ⟨hp, g, d, tk0, os⟩ := s
  show wpAny _ _ (field (.ref z) 2 >>= _) _ _ _
  refine wpAny_bind (wpAny_field hz rfl (x := .bool false) rfl ?_)
  show wpAny _ _ (field (.ref z) 3 >>= _) _ _ _
  refine wpAny_bind (wpAny_field hz rfl (x := .ref TI) rfl ?_)
  refine wpAny_bind (wpAny_seqItems hTI rfl ?_)
  show wpAny _ _ (Builtin.SmallTypes.ownedTupleIsFree (.ref z) >>= _) _ _ _
  refine wpAny_bind (wpAny_tupleHeld_zip hz hT fun g0 hz0 hs0 => ?_)
  replace hs0 : Heap.SameBut z hp g0 := hs0
  simp only [Bool.false_eq_true, if_false]
  refine wpAny_bind ?_
  rw [← Array.forIn_toList]
  simp only [List.forIn_cons, List.forIn_nil]
  refine wpAny_bind (wpAny_bind (wpAny_holding ?_))
  show wpAny _ _ (Builtin.SmallTypes.nextOf (.ref i1) >>= _) _ _ ⟨g0, g, d, tk0, os⟩
  refine wpAny_bind (D1.done ⟨g0, g, d, tk0, os⟩ _ _ (D1.over st1 hs0 S.zf1) fun q e hq he => ?_)
  replace hq : Heap.ExtBut i1 g0 q := hq
  exact hE q tk0 e (fun c o c1 c2 _ x => hq _ _ c2 (hs0.extBut _ _ c1 x)) he
theorem wpAny_pyNext_zipH_item {Q : Option Value → Shared → Prop} (S : ZipSep2 z TI TO i1 i2 fp1 fp2) (D1 : Draws prog w A.in1 i1 fp1 n1 P1 St1) (D2 : Draws prog w A.in1 i2 fp2 n2 P2 St2)
    (hz : IsZipHeld s.heap z TI TO T f) (hT : s.heap.get? T = some oT) (hTI : IsTupOf2 s.heap TI (.ref i1) (.ref i2)) (st1 : St1 i s.heap) (st2 : St2 i s.heap) (hlt1 : i < n1) (hlt2 : i < n2)
    (hQ : ∀ x1 x2 h' tk, P1 i x1 → P2 i x2 → IsZipHeld h' z TI TO T true → St1 (i + 1) h' → St2 (i + 1) h' → IsTupOf2 h' s.heap.objs.size x1 x2 → h'.objs.size = s.heap.objs.size + 1 →
      (∀ c o, c ≠ z → c ≠ i1 → c ≠ i2 → s.heap.get? c = some o → h'.get? c = some o) → Q (some (.ref s.heap.objs.size)) { s with heap := h', toks := tk }) :
    wpAny (model prog w) A (pyNext (.ref z)) Q E s := by
  have hTy : s.TypeIs (.ref z) "zip" := ⟨_, hz, rfl⟩
  unfold pyNext
  exact wpAny_bind (wpAny_attempt (wpAny_callSpecial?_slot (name := Str.ofString "__next__") hTy F.slot_zip_next
    (wpAny_call_entry F.slot_zip_next hTy F.entry_zip_next
      (zipH_next_item S D1 D2 hz hT hTI st1 st2 hlt1 hlt2 fun x1 x2 h' tk y1 y2 b1 d1 d2 b5 b6 b7 => wpAny_pure (hQ x1 x2 h' tk y1 y2 b1 d1 d2 b5 b6 b7)) (F.args_zip_next_1 _))))
theorem wpAny_pyNext_zipH_end {n : Nat} {Q : Option Value → Shared → Prop} (S : ZipSep2 z TI TO i1 i2 fp1 fp2) (D1 : Draws prog w A.in1 i1 fp1 n P1 St1)
    (hz : IsZipHeld s.heap z TI TO T f) (hT : s.heap.get? T = some oT) (hTI : IsTupOf2 s.heap TI (.ref i1) (.ref i2)) (st1 : St1 n s.heap)
    (hQ : ∀ h' tk, (∀ c o, c ≠ z → c ≠ i1 → c ≠ i2 → s.heap.get? c = some o → h'.get? c = some o) → Q none { s with heap := h', toks := tk }) : wpAny (model prog w) A (pyNext (.ref z)) Q E s := by
  have hTy : s.TypeIs (.ref z) "zip" := ⟨_, hz, rfl⟩
  unfold pyNext
  refine wpAny_bind (wpAny_attempt (wpAny_callSpecial?_slot (name := Str.ofString "__next__") hTy F.slot_zip_next
    (wpAny_call_entry F.slot_zip_next hTy F.entry_zip_next (zipH_next_end S D1 hz hT hTI st1 fun h' tk e hk he => ?_) (F.args_zip_next_1 _))))
  obtain ⟨o, ho, hc⟩ := he
  refine wpAny_bind (wpAny_isInstance (T := "StopIteration") (b := true) ⟨o, ho, hc⟩ isSubtype_stop ?_)
  exact wpAny_pure (hQ _ _ hk)
/-- a zip whose tuple, once handed out, lives on -/
def LzSt (S z TI TO i1 i2 : Addr) (h : Heap) : Prop := IsTupOf2 h TI (.ref i1) (.ref i2) ∧
  ((IsZip h z TI TO .none ∧ ∃ a b, IsTupOf2 h TO a b) ∨ ∃ T f oT, IsZipHeld h z TI TO T f ∧ h.get? T = some oT ∧ T ≠ z ∧ T ≠ i1 ∧ T ≠ i2 ∧ T ≠ S)
/-- the cells of the list made lie behind those of the zip -/
structure LzLow (S z TI TO i1 i2 : Addr) (fp1 fp2 : List Addr) : Prop where
  z : z < S
  TI : TI < S
  TO : TO < S
  i1 : i1 < S
  i2 : i2 < S
  f1 : ∀ b ∈ fp1, b < S
  f2 : ∀ b ∈ fp2, b < S
structure LzG (xs ys : List Value) (lo : Addr) (h : Heap) (as : List Addr) : Prop where
  rise : as.Pairwise (· < ·)
  above : ∀ a ∈ as, lo < a
  pairs : ∀ (j : Nat) (a : Addr), as[j]? = some a → ∃ x y, xs[j]? = some x ∧ ys[j]? = some y ∧ h.get? a = some { cls := .type "tuple", data := .seq #[x, y] }
theorem LzG.there {xs ys : List Value} {lo : Addr} {h : Heap} {as : List Addr} (g : LzG xs ys lo h as) {a : Addr} (ha : a ∈ as) : a < h.objs.size := by
  obtain ⟨j, hj⟩ := List.mem_iff_getElem?.mp ha
  obtain ⟨_, _, _, _, e⟩ := g.pairs j a hj
  exact Heap.lt_size e
theorem lz_item {S : Addr} {Q : Option Value → Shared → Prop} (Z : ZipSep2 z TI TO i1 i2 fp1 fp2) (L : LzLow S z TI TO i1 i2 fp1 fp2) (D1 : Draws prog w A.in1 i1 fp1 n1 P1 St1) (D2 : Draws prog w A.in1 i2 fp2 n2 P2 St2)
    (hz : LzSt S z TI TO i1 i2 s.heap) (hS : S < s.heap.objs.size) (st1 : St1 i s.heap) (st2 : St2 i s.heap) (hlt1 : i < n1) (hlt2 : i < n2)
    (hQ : ∀ x1 x2 h' tk, P1 i x1 → P2 i x2 → LzSt S z TI TO i1 i2 h' → St1 (i + 1) h' → St2 (i + 1) h' → IsTupOf2 h' s.heap.objs.size x1 x2 → h'.objs.size = s.heap.objs.size + 1 →
      (∀ c o, c ≠ z → c ≠ TO → c ≠ i1 → c ≠ i2 → s.heap.get? c = some o → h'.get? c = some o) → Q (some (.ref s.heap.objs.size)) { s with heap := h', toks := tk }) :
    wpAny (model prog w) A (pyNext (.ref z)) Q E s := by
  obtain ⟨hTI, ⟨hz, a, b, hTO⟩ | ⟨T, f, oT, hz, hT, r1, r2, r3, r4⟩⟩ := hz
  · refine wpAny_pyNext_zipD2_item Z D1 D2 hz hTI hTO st1 st2 hlt1 hlt2 fun x1 x2 h' tk y1 y2 b1 b2 d1 d2 b5 b6 b7 => ?_
    exact hQ x1 x2 h' tk y1 y2 ⟨b7 _ _ Z.TIz Z.TITO Z.TIi1 Z.TIi2 hTI, .inr ⟨_, false, _, b1, b5, Nat.ne_of_gt (Nat.lt_trans L.z hS), Nat.ne_of_gt (Nat.lt_trans L.i1 hS), Nat.ne_of_gt (Nat.lt_trans L.i2 hS), Nat.ne_of_gt hS⟩⟩ d1 d2 b5 b6 b7
  · refine wpAny_pyNext_zipH_item Z D1 D2 hz hT hTI st1 st2 hlt1 hlt2 fun x1 x2 h' tk y1 y2 b1 d1 d2 b5 b6 b7 => ?_
    exact hQ x1 x2 h' tk y1 y2 ⟨b7 _ _ Z.TIz Z.TIi1 Z.TIi2 hTI, .inr ⟨T, true, oT, b1, b7 _ _ r1 r2 r3 hT, r1, r2, r3, r4⟩⟩ d1 d2 b5 b6 fun c o c1 _ c3 c4 e => b7 c o c1 c3 c4 e
theorem lz_done {S : Addr} {n : Nat} {Q : Option Value → Shared → Prop} (Z : ZipSep2 z TI TO i1 i2 fp1 fp2) (D1 : Draws prog w A.in1 i1 fp1 n P1 St1) (D2 : Draws prog w A.in1 i2 fp2 n P2 St2)
    (hz : LzSt S z TI TO i1 i2 s.heap) (st1 : St1 n s.heap) (st2 : St2 n s.heap)
    (hQ : ∀ h' tk, (∀ c o, c ≠ z → c ≠ TO → c ≠ i1 → c ≠ i2 → s.heap.get? c = some o → h'.get? c = some o) → Q none { s with heap := h', toks := tk }) :
    wpAny (model prog w) A (pyNext (.ref z)) Q E s := by
  obtain ⟨hTI, ⟨hz, a, b, hTO⟩ | ⟨T, f, oT, hz, hT, r1, r2, r3, r4⟩⟩ := hz
  · exact wpAny_pyNext_zipD2_end Z D1 D2 hz hTI hTO st1 st2 (Nat.le_refl _) (Nat.le_refl _) (.inl rfl) hQ
  · exact wpAny_pyNext_zipH_end Z D1 hz hT hTI st1 fun h' tk b7 => hQ h' tk fun c o c1 _ c3 c4 e => b7 c o c1 c3 c4 e
theorem LzSt.keep {S : Addr} {h h' : Heap} (L : LzLow S z TI TO i1 i2 fp1 fp2) (x : LzSt S z TI TO i1 i2 h) (hk : ∀ b o, b ≠ S → h.get? b = some o → h'.get? b = some o) : LzSt S z TI TO i1 i2 h' := by
  obtain ⟨hTI, ⟨hz, a, b, hTO⟩ | ⟨T, f, oT, hz, hT, r1, r2, r3, r4⟩⟩ := x
  · exact ⟨hk _ _ (Nat.ne_of_lt L.TI) hTI, .inl ⟨hk _ _ (Nat.ne_of_lt L.z) hz, a, b, hk _ _ (Nat.ne_of_lt L.TO) hTO⟩⟩
  · exact ⟨hk _ _ (Nat.ne_of_lt L.TI) hTI, .inr ⟨T, f, oT, hk _ _ (Nat.ne_of_lt L.z) hz, hk _ _ r4 hT, r1, r2, r3, r4⟩⟩
theorem lz_loop {S : Addr} {n : Nat} {xs ys : List Value} {R : Result → Shared → Prop} (Z : ZipSep2 z TI TO i1 i2 fp1 fp2) (L : LzLow S z TI TO i1 i2 fp1 fp2)
    (D1 : Draws prog w A.in1.in1 i1 fp1 n (fun i v => xs[i]? = some v) St1) (D2 : Draws prog w A.in1.in1 i2 fp2 n (fun i v => ys[i]? = some v) St2) (hn : n ≤ sizeLine) (res : Value) {h₁ : Heap}
    (hR : ∀ h' tk acc c as, (∀ b o, b ≠ S → b ≠ z → b ≠ TO → b ≠ i1 → b ≠ i2 → h₁.get? b = some o → h'.get? b = some o) → h'.get? S = some { cls := .type "list", dict := none, data := .seq acc c, slots := #[] } → as.length = n → LzG xs ys S h' as →
      acc.toList = as.map Value.ref → R (.ok (.ret res)) { s with heap := h', toks := tk }) :
    ∀ (k i : Nat) (h : Heap) (tk c : Nat) (acc : Array Value) (as : List Addr), n - i = k → i ≤ n → LzSt S z TI TO i1 i2 h → St1 i h → St2 i h → (∀ b o, b ≠ S → b ≠ z → b ≠ TO → b ≠ i1 → b ≠ i2 → h₁.get? b = some o → h.get? b = some o) →
      h.get? S = some { cls := .type "list", dict := none, data := .seq acc c, slots := #[] } → acc.toList = as.map Value.ref → as.length = i → LzG xs ys S h as →
      codeAny (model prog w) A (.builtin "list.extend.loop" ⟨[.ref S, .ref z, res], []⟩) R { s with heap := h, toks := tk } := by
  intro k
  induction k with
  | zero =>
    intro i h tk c acc as hk hi hst st1 st2 hkeep hS hacc hal hG
    have hin : i = n := by omega
    subst hin
    refine codeAny_builtin PySem.F.entry_extend_loop ?_
    rw [Around.under_plainId PySem.F.plain_extend_loop _]
    show wpAny _ A.in1 (pyNext (.ref z) >>= _) _ _ _
    refine wpAny_bind (lz_done (s := { s with heap := h, toks := tk }) (A := A.in1) Z D1 D2 hst st1 st2 fun h' tk' he => ?_)
    dsimp only at he ⊢
    refine wpAny_pure (hR h' tk' acc c as (fun b o h1 h2 h3 h4 h5 e => he b o h2 h3 h4 h5 (hkeep b o h1 h2 h3 h4 h5 e)) (he S _ (Nat.ne_of_gt L.z) (Nat.ne_of_gt L.TO) (Nat.ne_of_gt L.i1) (Nat.ne_of_gt L.i2) hS) hal ⟨hG.rise, hG.above, fun j a hj => ?_⟩ hacc)
    obtain ⟨x, y, e1, e2, e3⟩ := hG.pairs j a hj
    have hb := hG.above a (List.mem_of_getElem? hj)
    exact ⟨x, y, e1, e2, he a _ (Nat.ne_of_gt (Nat.lt_trans L.z hb)) (Nat.ne_of_gt (Nat.lt_trans L.TO hb)) (Nat.ne_of_gt (Nat.lt_trans L.i1 hb)) (Nat.ne_of_gt (Nat.lt_trans L.i2 hb)) e3⟩
  | succ k ih =>
    intro i h tk c acc as hk hi hst st1 st2 hkeep hS hacc hal hG
    have hlt : i < n := by omega
    have hsz : acc.size = i := by rw [← Array.length_toList, hacc, List.length_map, hal]
    refine codeAny_builtin PySem.F.entry_extend_loop ?_
    rw [Around.under_plainId PySem.F.plain_extend_loop _]
    show wpAny _ A.in1 (pyNext (.ref z) >>= _) _ _ _
    have hSl : S < h.objs.size := Heap.lt_size hS
    refine wpAny_bind (lz_item (s := { s with heap := h, toks := tk }) (A := A.in1) (S := S) Z L D1 D2 hst hSl st1 st2 hlt hlt fun x1 x2 h' tk' y1 y2 hst' st1' st2' ht hz hkp => ?_)
    dsimp only at ht hz hkp ⊢
    have hS' := hkp S _ (Nat.ne_of_gt L.z) (Nat.ne_of_gt L.TO) (Nat.ne_of_gt L.i1) (Nat.ne_of_gt L.i2) hS
    have up : ∀ b o, b ≠ S → h'.get? b = some o → (h'.update S (Obj.mapSeq (·.push (Value.ref h.objs.size)))).get? b = some o := fun b o hb e => (Heap.get?_update_other _ _ (Ne.symm hb)).trans e
    show wpAny _ A.in1 (updateSeq S (·.push (Value.ref h.objs.size)) >>= _) _ _ _
    refine wpAny_bind ?_
    refine wpAny_updateSeq hS' rfl (wpAny_pure ⟨plainId_quiet PySem.F.plain_extend_loop _, ih (i + 1) _ tk' _ (acc.push (Value.ref h.objs.size)) (as ++ [h.objs.size]) (by omega) hlt (hst'.keep L up)
      (D1.frame _ _ _ st1' fun b hb o e => up b o (Nat.ne_of_lt (L.f1 b hb)) e) (D2.frame _ _ _ st2' fun b hb o e => up b o (Nat.ne_of_lt (L.f2 b hb)) e)
      (fun b o h1 h2 h3 h4 h5 e => up b o h1 (hkp b o h2 h3 h4 h5 (hkeep b o h1 h2 h3 h4 h5 e))) (Heap.get?_update_self _ hS' rfl) (by rw [Array.toList_push, hacc, List.map_append]; rfl) (by rw [List.length_append, hal]; rfl) ⟨?_, ?_, ?_⟩⟩) (by rw [hsz]; omega) (by show (acc.push (Value.ref h.objs.size)).size ≤ sizeLine + 1; rw [Array.size_push, hsz]; omega)
    · refine List.pairwise_append.mpr ⟨hG.rise, List.pairwise_singleton _ _, fun a ha b hb => ?_⟩
      rw [List.mem_singleton.mp hb]
      exact hG.there ha
    · intro a ha
      rcases List.mem_append.mp ha with ha | ha
      · exact hG.above a ha
      · rw [List.mem_singleton.mp ha]; exact hSl
    · intro j b hj
      rcases Nat.lt_trichotomy j as.length with h1 | h1 | h1
      · rw [List.getElem?_append_left h1] at hj
        obtain ⟨x, y, e1, e2, e3⟩ := hG.pairs j b hj
        have hb := hG.above b (List.mem_of_getElem? hj)
        exact ⟨x, y, e1, e2, up b _ (Nat.ne_of_gt hb) (hkp b _ (Nat.ne_of_gt (Nat.lt_trans L.z hb)) (Nat.ne_of_gt (Nat.lt_trans L.TO hb)) (Nat.ne_of_gt (Nat.lt_trans L.i1 hb)) (Nat.ne_of_gt (Nat.lt_trans L.i2 hb)) e3)⟩
      · subst h1
        have hb : h.objs.size = b := by simpa using hj
        subst hb
        exact ⟨x1, x2, by rw [hal]; exact y1, by rw [hal]; exact y2, up _ _ (Nat.ne_of_gt hSl) ht⟩
      · have hnone : (as ++ [h.objs.size])[j]? = none := List.getElem?_eq_none (by rw [List.length_append, List.length_singleton]; omega)
        rw [hnone] at hj; cases hj
theorem zip_no_len : typeLookup (.type "zip") "__len__" = pure none := am_miss_of_fast (by decide +kernel)
theorem zip_no_hint : typeLookup (.type "zip") "__length_hint__" = pure none := am_miss_of_fast (by decide +kernel)
theorem lz_hint (hT : s.TypeIs (.ref z) "zip") {Q : Bool → Shared → Prop} (h : Q true s) : wpAny (model prog w) A (Builtin.List.listLengthHint (.ref z)) Q E s := by
  unfold Builtin.List.listLengthHint
  refine wpAny_bind (wpAny_specialOf hT zip_no_len ?_)
  refine wpAny_ite_split (fun hab => absurd hab (by decide)) (fun _ => ?_)
  refine wpAny_ite_split (fun hab => absurd hab (by decide)) (fun _ => ?_)
  refine wpAny_bind (wpAny_specialOf hT zip_no_hint ?_)
  exact wpAny_pure h
theorem lz_extend {S : Addr} {n : Nat} {xs ys : List Value} {R : Result → Shared → Prop} (Z : ZipSep2 z TI TO i1 i2 fp1 fp2) (L : LzLow S z TI TO i1 i2 fp1 fp2)
    (D1 : Draws prog w A.in1.in1 i1 fp1 n (fun i v => xs[i]? = some v) St1) (D2 : Draws prog w A.in1.in1 i2 fp2 n (fun i v => ys[i]? = some v) St2) (hn : n ≤ sizeLine) (res : Value)
    (hz : IsZip s.heap z TI TO .none) (hTI : IsTupOf2 s.heap TI (.ref i1) (.ref i2)) (hTO : ∃ a b, IsTupOf2 s.heap TO a b) (st1 : St1 0 s.heap) (st2 : St2 0 s.heap) (c₀ : Nat) (hS : s.heap.get? S = some { cls := .type "list", data := .seq #[] c₀ })
    (hR : ∀ h' tk acc c as, (∀ b o, b ≠ S → b ≠ z → b ≠ TO → b ≠ i1 → b ≠ i2 → s.heap.get? b = some o → h'.get? b = some o) → h'.get? S = some { cls := .type "list", dict := none, data := .seq acc c, slots := #[] } → as.length = n → LzG xs ys S h' as →
      acc.toList = as.map Value.ref → R (.ok (.ret res)) { s with heap := h', toks := tk }) :
    wpAny (model prog w) A.in1 (Builtin.List.listExtendWith (.ref S) (.ref z) res)
      (fun fin s' => match fin with | .done f => R (.ok f) s' | .again c' => c'.quiet = true ∧ codeAny (model prog w) A c' R s') (fun e s' => R (.error e) s') s := by
  have hSz : S ≠ z := Nat.ne_of_gt L.z
  have key : ∀ (h : Heap) (c₁ tk : Nat), (∀ b o, b ≠ S → s.heap.get? b = some o → h.get? b = some o) →
      h.get? S = some { cls := .type "list", data := .seq #[] c₁ } → codeAny (model prog w) A (.builtin "list.extend.loop" ⟨[.ref S, .ref z, res], []⟩) R { s with heap := h, toks := tk } := by
    intro h c₁ tk hk hS₁
    obtain ⟨a, b, hTO⟩ := hTO
    refine lz_loop (s := s) (h₁ := s.heap) Z L D1 D2 hn res hR n 0 h tk c₁ #[] [] (Nat.sub_zero _) (Nat.zero_le _) ⟨hk _ _ (Nat.ne_of_lt L.TI) hTI, .inl ⟨hk _ _ (Nat.ne_of_lt L.z) hz, a, b, hk _ _ (Nat.ne_of_lt L.TO) hTO⟩⟩
      (D1.frame _ _ _ st1 fun b hb o e => hk b o (Nat.ne_of_lt (L.f1 b hb)) e) (D2.frame _ _ _ st2 fun b hb o e => hk b o (Nat.ne_of_lt (L.f2 b hb)) e) (fun b o hb _ _ _ _ e => hk b o hb e) hS₁ rfl rfl
      ⟨List.Pairwise.nil, (fun _ ha => nomatch ha), (fun j a hj => by simp at hj)⟩
  have hT : s.TypeIs (.ref z) "zip" := ⟨_, hz, rfl⟩
  unfold Builtin.List.listExtendWith
  refine wpAny_bind (wpAny_typeOf (T := "zip") hT ?_)
  have h1 : Builtin.List.listSameRef (.ref S) (.ref z) = false := by simp [Builtin.List.listSameRef, hSz]
  have h2 : (Value.type "zip" == Value.type "list") = false := by decide
  have h3 : (Value.type "zip" == Value.type "tuple") = false := by decide
  simp only [h1, h2, h3, Bool.or_false, Bool.false_eq_true, if_false]
  refine wpAny_bind (wpAny_pyIter_zip hz ?_)
  refine wpAny_bind (wpAny_holding (lz_hint hT ?_))
  refine wpAny_ite_split (fun _ => ?_) (fun _ => wpAny_pure ⟨plainId_quiet PySem.F.plain_extend_loop _, key _ c₀ _ (fun b o _ e => e) hS⟩)
  refine wpAny_bind (wpAny_rule ?_)
  refine wpAny_bind ?_
  show wpAny _ _ (updateSeq S (·.push .none) >>= fun _ => updateSeq S (·.pop)) _ _ _
  refine wpAny_bind (wpAny_updateSeq hS rfl ?_)
  have hS₂ := Heap.get?_update_self (Obj.mapSeq (·.push Value.none)) hS rfl
  refine wpAny_updateSeq (hz := by seq_fits) hS₂ rfl ?_
  have hS₃ := Heap.get?_update_self (Obj.mapSeq (·.pop)) hS₂ rfl
  refine wpAny_pure ⟨plainId_quiet PySem.F.plain_extend_loop _, key _ _ _ (fun b o hb e => ?_) hS₃⟩
  exact (Heap.get?_update_other _ _ (Ne.symm hb)).trans ((Heap.get?_update_other _ _ (Ne.symm hb)).trans e)
theorem lz_init {S : Addr} {n : Nat} {xs ys : List Value} {R : Result → Shared → Prop} (Z : ZipSep2 z TI TO i1 i2 fp1 fp2) (L : LzLow S z TI TO i1 i2 fp1 fp2)
    (D1 : Draws prog w A.in1.in1 i1 fp1 n (fun i v => xs[i]? = some v) St1) (D2 : Draws prog w A.in1.in1 i2 fp2 n (fun i v => ys[i]? = some v) St2) (hn : n ≤ sizeLine)
    (hz : IsZip s.heap z TI TO .none) (hTI : IsTupOf2 s.heap TI (.ref i1) (.ref i2)) (hTO : ∃ a b, IsTupOf2 s.heap TO a b) (st1 : St1 0 s.heap) (st2 : St2 0 s.heap) (hS : s.heap.get? S = some { cls := .type "list", data := .seq #[] })
    (hR : ∀ h' tk acc c as, (∀ b o, b ≠ S → b ≠ z → b ≠ TO → b ≠ i1 → b ≠ i2 → s.heap.get? b = some o → h'.get? b = some o) → h'.get? S = some { cls := .type "list", dict := none, data := .seq acc c, slots := #[] } → as.length = n → LzG xs ys S h' as →
      acc.toList = as.map Value.ref → R (.ok (.ret .none)) { s with heap := h', toks := tk }) :
    wpAny (model prog w) A.in1 (Builtin.«list.__init__» ⟨[.ref S, .ref z], []⟩)
      (fun fin s' => match fin with | .done f => R (.ok f) s' | .again c' => c'.quiet = true ∧ codeAny (model prog w) A c' R s') (fun e s' => R (.error e) s') s := by
  show wpAny _ _ (do let old ← Builtin.List.listItems (.ref S); Builtin.List.listUpdate (.ref S) (fun _ => #[]); letGo old.toList.reverse; Builtin.List.listExtendWith (.ref S) (.ref z) .none) _ _ s
  refine wpAny_bind ?_
  unfold Builtin.List.listItems
  refine wpAny_bind (wpAny_seqItems hS rfl (wpAny_pure ?_))
  show wpAny _ _ (updateSeq S (fun _ => #[]) >>= fun _ => letGo (#[] : Array Value).toList.reverse >>= fun _ => Builtin.List.listExtendWith (.ref S) (.ref z) .none) _ _ s
  refine wpAny_bind (wpAny_updateSeq hS rfl ?_)
  have hS₂ := Heap.get?_update_self (Obj.mapSeq (fun _ => (#[] : Array Value))) hS rfl
  have oth : ∀ b o, b ≠ S → s.heap.get? b = some o → (s.heap.update S (Obj.mapSeq (fun _ => (#[] : Array Value)))).get? b = some o :=
    fun b o hb e => (Heap.get?_update_other _ _ (Ne.symm hb)).trans e
  refine wpAny_bind (wpAny_letGo ?_)
  obtain ⟨a, b, hTO⟩ := hTO
  refine lz_extend (s := { s with heap := s.heap.update S (Obj.mapSeq (fun _ => (#[] : Array Value))) }) Z L D1 D2 hn .none (oth _ _ (Nat.ne_of_lt L.z) hz) (oth _ _ (Nat.ne_of_lt L.TI) hTI) ⟨a, b, oth _ _ (Nat.ne_of_lt L.TO) hTO⟩
    (D1.frame _ _ _ st1 fun b hb o e => oth b o (Nat.ne_of_lt (L.f1 b hb)) e) (D2.frame _ _ _ st2 fun b hb o e => oth b o (Nat.ne_of_lt (L.f2 b hb)) e) _ hS₂ (fun h' tk acc c as hk hS' hl hG hacc => ?_)
  exact hR h' tk acc c as (fun b o hb h2 h3 h4 h5 e => hk b o hb h2 h3 h4 h5 (oth b o hb e)) hS' hl hG hacc
theorem lz_call {n : Nat} {xs ys : List Value} {Q : Value → Shared → Prop} (Z : ZipSep2 z TI TO i1 i2 fp1 fp2) (L : LzLow s.heap.objs.size z TI TO i1 i2 fp1 fp2)
    (D1 : Draws prog w A.in1.in1.in1 i1 fp1 n (fun i v => xs[i]? = some v) St1) (D2 : Draws prog w A.in1.in1.in1 i2 fp2 n (fun i v => ys[i]? = some v) St2) (hn : n ≤ sizeLine)
    (hz : IsZip s.heap z TI TO .none) (hTI : IsTupOf2 s.heap TI (.ref i1) (.ref i2)) (hTO : ∃ a b, IsTupOf2 s.heap TO a b) (st1 : St1 0 s.heap) (st2 : St2 0 s.heap)
    (hQ : ∀ h' tk acc c as, (∀ b o, b ≠ z → b ≠ TO → b ≠ i1 → b ≠ i2 → s.heap.get? b = some o → h'.get? b = some o) → h'.get? s.heap.objs.size = some { cls := .type "list", dict := none, data := .seq acc c, slots := #[] } → as.length = n → LzG xs ys s.heap.objs.size h' as →
      acc.toList = as.map Value.ref → Q (.ref s.heap.objs.size) { s with heap := h', toks := tk }) :
    wpAny (model prog w) A (call (.type "list") [.ref z]) Q E s := by
  refine callType_codes (Q₁ := fun obj s₁ => obj = .ref s.heap.objs.size ∧ s₁ = { s with heap := s.heap.push { cls := .type "list", data := .seq #[] } }) PySem.F.called_list (PySem.F.typeCall_list_1 _) PySem.F.entry_list_init
    (code_list_new _ ⟨rfl, rfl⟩) fun obj s₁ h₁ => ?_
  obtain ⟨rfl, rfl⟩ := h₁
  have hS : (s.heap.push { cls := .type "list", data := .seq #[] }).get? s.heap.objs.size = some { cls := .type "list", data := .seq #[] } := Heap.get?_push_size _ rfl
  obtain ⟨a, b, hTO⟩ := hTO
  refine ⟨⟨_, hS, rfl⟩, PySem.F.args_list_init_2 _ _, lz_init (A := A.in1) (s := { s with heap := s.heap.push { cls := .type "list", data := .seq #[] } }) Z L D1 D2 hn (Heap.get?_push_of_some _ hz) (Heap.get?_push_of_some _ hTI) ⟨a, b, Heap.get?_push_of_some _ hTO⟩
    (D1.frame _ _ _ st1 fun b hb o e => Heap.get?_push_of_some _ e) (D2.frame _ _ _ st2 fun b hb o e => Heap.get?_push_of_some _ e) hS (fun h' tk acc c as hk hS' hl hG hacc => ?_)⟩
  exact ⟨rfl, hQ h' tk acc c as (fun b o h2 h3 h4 h5 e => hk b o (Nat.ne_of_lt (Heap.lt_size e)) h2 h3 h4 h5 (Heap.get?_push_of_some _ e)) hS' hl hG hacc⟩
end
end PySem
end MdLzPart
section MdLyPart
set_option Elab.async false
set_option linter.all false
set_option maxRecDepth 100000
set_option maxHeartbeats 4000000
set_option pp.maxSteps 400
/-! list(zip(..)): over the hidden heap -/
namespace Md
open PySem PySem.Spec PyProof.Rows L2
/-- the pairs tracked at their addresses -/
def putZ : Hp → List Addr → List (V × V) → Hp
  | H, a :: as, p :: kvs => putZ (upd H a (.tup [p.1, p.2])) as kvs
  | H, _, _ => H
theorem putZ_off {b : Addr} : ∀ (as : List Addr) (kvs : List (V × V)) (H : Hp), b ∉ as → putZ H as kvs b = H b
  | [], _, _, _ => rfl
  | _ :: _, [], _, _ => rfl
  | a :: as, p :: kvs, H, h => by
    show putZ (upd H a (.tup [p.1, p.2])) as kvs b = H b
    rw [putZ_off as kvs _ (fun z => h (List.mem_cons_of_mem _ z)), upd_ne (fun z => h (by rw [z]; exact List.mem_cons_self))]
theorem putZ_at : ∀ (as : List Addr) (kvs : List (V × V)) (H : Hp), as.length = kvs.length → as.Nodup → Paired (fun (t : Addr) (p : V × V) => putZ H as kvs t = some (.tup [p.1, p.2])) as kvs
  | [], [], _, _, _ => .nil
  | [], _ :: _, _, h, _ => by cases h
  | _ :: _, [], _, h, _ => by cases h
  | a :: as, p :: kvs, H, h, hn => by
    have hn' := List.nodup_cons.mp hn
    have ih := putZ_at as kvs (upd H a (.tup [p.1, p.2])) (Nat.succ.inj h) hn'.2
    refine .cons ?_ ih
    show putZ (upd H a (.tup [p.1, p.2])) as kvs a = some (.tup [p.1, p.2])
    rw [putZ_off as kvs _ hn'.1, upd_same]
theorem AtB.at {b : Bool} {h h' : Heap} {a : Addr} {xs : Array Value} (x : AtB b h a xs) (k : ∀ o, h.get? a = some o → h'.get? a = some o) : AtB b h' a xs := by
  cases b with
  | true => exact Heap.IsList.at (show h.IsList a xs from x) k
  | false => exact Heap.IsTuple.at (show h.IsTuple a xs from x) k
section
variable {X : Cx} {e e2 : Expr} {ta : TA} {p p2 q pos : Pos} {b1 b2 : Bool}
theorem lz_laid {pins : List (Addr × Obj)} {σ : L2.St} {H : Hp} {s : Shared} {h' : Heap} {tk : Nat} {xs ys : List V} {us vs : List Value} {acc : Array Value} {c : Nat} {as : List Addr} {S : Addr} (I : Inv X pins σ H s) (hz : xs.length ≤ sizeLine) (rx : Vals xs us) (ry : Vals ys vs) (he : xs.length = ys.length)
    (hk : ∀ b o, s.heap.get? b = some o → h'.get? b = some o) (hSl : s.heap.objs.size ≤ S) (hS : h'.get? S = some { cls := .type "list", dict := none, data := .seq acc c, slots := #[] }) (hl : as.length = us.length) (hG : LzG us vs S h' as) (hacc : acc.toList = as.map Value.ref) :
    ∃ H' : Hp, (∀ b o, H b = some o → H' b = some o) ∧ H S = none ∧ (∀ t ∈ as, H t = none) ∧ S ∉ as ∧ H' S = some (.lst (as.map V.ref)) ∧ Paired (fun (t : Addr) (q : V × V) => H' t = some (.tup [q.1, q.2])) as (xs.zip ys) ∧ Inv X pins σ H' { s with heap := h', toks := tk } := by
  have lx := rx.length
  have ly := ry.length
  have hSn : S ∉ as := fun z => Nat.lt_irrefl _ (hG.above _ z)
  have nd : as.Nodup := List.Pairwise.imp (fun {a b} (h : a < b) => Nat.ne_of_lt h) hG.rise
  have new : ∀ t ∈ as, H t = none := fun t ht => I.hok.fresh (Nat.le_trans hSl (Nat.le_of_lt (hG.above t ht)))
  have newS : H S = none := I.hok.fresh hSl
  have atP := putZ_at as (xs.zip ys) (upd H S (.lst (as.map V.ref))) (by rw [List.length_zip]; omega) nd
  have off : ∀ b, b ∉ as → b ≠ S → putZ (upd H S (.lst (as.map V.ref))) as (xs.zip ys) b = H b := fun b h1 h2 => by rw [putZ_off as _ _ h1, upd_ne h2]
  have low : ∀ b o, s.heap.get? b = some o → b ∉ as ∧ b ≠ S := fun b o e => ⟨fun z => absurd (Heap.lt_size e) (Nat.not_lt.mpr (Nat.le_trans hSl (Nat.le_of_lt (hG.above b z)))), Nat.ne_of_lt (Nat.lt_of_lt_of_le (Heap.lt_size e) hSl)⟩
  have kp : ∀ b u, H b = some u → (putZ (upd H S (.lst (as.map V.ref))) as (xs.zip ys)) b = some u := fun b u e => by
    rw [off b (fun z => by rw [new b z] at e; cases e) (fun z => by rw [z, newS] at e; cases e)]
    exact e
  have eS : putZ (upd H S (.lst (as.map V.ref))) as (xs.zip ys) S = some (.lst (as.map V.ref)) := by rw [putZ_off as _ _ hSn, upd_same]
  refine ⟨putZ (upd H S (.lst (as.map V.ref))) as (xs.zip ys), kp, newS, new, hSn, eS, atP, ?_⟩
  refine I.call' (ch := []) rfl ⟨fun b o q _ _ _ => hk b o q, fun b o q _ _ _ => ⟨o.slots, hk b o q⟩, fun b o q n _ => ?_, fun b o q _ => ⟨o, hk b o q⟩, fun b xs q => kp b _ q, fun b o u q => kp b _ q, fun b ps q => ⟨#[], by rw [kp b _ q]; simp⟩⟩ (fun b u q => ?_) I.bare fun b z => by simp at z
  · obtain ⟨z1, z2⟩ := low b o q
    rw [off b z1 z2]
    exact n
  · by_cases hb : b ∈ as
    · obtain ⟨j, pk, e1, e2, e3⟩ := LiI.paired_ix atP hb
      rw [e3] at q
      cases q
      obtain ⟨x, y, f1, f2, f3⟩ := hG.pairs j b e1
      rw [List.getElem?_zip_eq_some] at e2
      obtain ⟨x', g1, rx'⟩ := rx.get e2.1
      obtain ⟨y', g2, ry'⟩ := ry.get e2.2
      rw [f1] at g1
      rw [f2] at g2
      cases g1
      cases g2
      exact ⟨by show 2 ≤ sizeLine; decide, [x, y], .cons rx' (.cons ry' .nil), ⟨_, f3, rfl, _, rfl⟩⟩
    · by_cases hb2 : b = S
      · rw [hb2] at q ⊢
        rw [eS] at q
        cases q
        refine ⟨by rw [List.length_map]; omega, acc.toList, c, by rw [hacc]; exact LiI.vals_refs as, ?_⟩
        rw [Array.toArray_toList]
        exact hS
      · rw [off b hb hb2] at q
        exact (I.hok b u q).stay (fun d v _ y => hk d v y) (fun d y => kp d _ y) fun d xs y => kp d _ y
def tListZip (b1 b2 : Bool) (K : PySem.W.Frag) (ta : TA) : TE := fun σ H Q => ta σ H fun vs H1 => ∃ a b xs ys, vs = [.ref a, .ref b] ∧ SqB b1 K H1 a xs ∧ SqB b2 K H1 b ys ∧ xs.length = ys.length ∧ xs.length ≤ sizeLine ∧
  ∀ (H' : Hp) (p : Addr) (ts : List Addr), (∀ b o, H1 b = some o → H' b = some o) → H1 p = none → (∀ t ∈ ts, H1 t = none) → p ∉ ts → H' p = some (.lst (ts.map V.ref)) → Paired (fun (t : Addr) (q : V × V) => H' t = some (.tup [q.1, q.2])) ts (xs.zip ys) → Q (.ref p) H'
theorem pe_listZip (hc : X.calm = true) (hg : Gl X "list") (hm : X.mg "list" = none) (hg2 : Gl X "zip") (hm2 : X.mg "zip" = none) (ha : PA X [e, e2] ta)
    (hs : starEach [e, e2] X.env = (false, eval e X.env) :: starEach [e2] X.env := by rfl) (hpl : (backTo q (starEach [e2] X.env)).any (·.1) = false := by rfl)
    (hs3 : starEach [.Call (.Name "zip" p2) [e, e2] [] q] X.env = (false, eval (.Call (.Name "zip" p2) [e, e2] [] q) X.env) :: starEach [] X.env := by rfl) :
    PE X (.Call (.Name "list" p) [.Call (.Name "zip" p2) [e, e2] [] q] [] pos) (tListZip b1 b2 X.K ta) := by
  refine ⟨fun pins s σ H Q I h => ?_⟩
  refine wpAny_Call_Name_kw (ld_blt I hg hm PyProof.Rows.boot_list ?_)
  refine PyProof.Rows.callWith_type1 ?_ hs3 rfl
  rw [hs3]
  show wpAny _ _ (spliced ((false, eval (.Call (.Name "zip" p2) [e, e2] [] q) X.env) :: backTo pos (starEach [] X.env))) _ _ s
  refine Calls.spliced_cons ?_
  refine wpAny_Call_Name_kw (ld_blt I hg2 hm2 PyProof.Rows.boot_zip (PyProof.Rows.callWith_type1 (thn (ha.run q pins s σ H _ I h) fun us s1 ⟨vs, H1, I1, r1, q1⟩ => ?_) hs hpl))
  obtain ⟨a, b, xs, ys, ex, hqx, hqy, hl, hz, qq⟩ := q1
  subst ex
  cases r1 with
  | cons r rr =>
    cases rr with
    | cons r' rr =>
      cases rr
      cases r
      cases r'
      obtain ⟨its, rv, p1, la⟩ := hqx.seq I1
      obtain ⟨its2, rv2, p2, lb⟩ := hqy.seq I1
      have l1 := rv.length
      have l2 := rv2.length
      have ez : its.toArray.size = xs.length := by rw [List.size_toArray, ← l1]
      have ez2 : its2.toArray.size = xs.length := by rw [List.size_toArray, ← l2, hl]
      refine zip_begins2 (beginsB b1 a its.toArray) (beginsB b2 b its2.toArray) p1 p2 fun h' hz' hTI hTO h1 h2 hsz hk => ?_
      refine Calls.spliced_nil ?_
      have S := zip_sep2 (N := s1.heap.objs.size) (fp1 := [a]) (fp2 := [b]) (by simpa using la) (by simpa using lb)
      have D1 := drawsB (prog := X.prog) (w := X.w) (A := X.A.in1.in1.in1) b1 (I.ok.hd hc) s1.heap.objs.size a (Nat.ne_of_lt la) its.toArray
      have D2 := drawsB (prog := X.prog) (w := X.w) (A := X.A.in1.in1.in1) b2 (I.ok.hd hc) (s1.heap.objs.size + 1) b (Nat.ne_of_lt (Nat.lt_succ_of_lt lb)) its2.toArray
      rw [ez] at D1
      rw [ez2] at D2
      have D1' : Draws X.prog X.w X.A.in1.in1.in1 s1.heap.objs.size [s1.heap.objs.size, a] xs.length (fun i v => its[i]? = some v) (fun i h => ItB b1 h s1.heap.objs.size a i ∧ AtB b1 h a its.toArray) := by simpa using D1
      have D2' : Draws X.prog X.w X.A.in1.in1.in1 (s1.heap.objs.size + 1) [s1.heap.objs.size + 1, b] xs.length (fun i v => its2[i]? = some v) (fun i h => ItB b2 h (s1.heap.objs.size + 1) b i ∧ AtB b2 h b its2.toArray) := by simpa using D2
      have L : LzLow h'.objs.size (s1.heap.objs.size + 4) (s1.heap.objs.size + 2) (s1.heap.objs.size + 3) s1.heap.objs.size (s1.heap.objs.size + 1) [s1.heap.objs.size, a] [s1.heap.objs.size + 1, b] := by
        rw [hsz]
        have lt : ∀ N j : Nat, j < 5 → N + j < N + 5 := fun N j h => by omega
        have lo : ∀ N a : Nat, a < N → a < N + 5 := fun N j h => by omega
        refine ⟨lt _ 4 (by decide), lt _ 2 (by decide), lt _ 3 (by decide), lt _ 0 (by decide), lt _ 1 (by decide), fun c hc => ?_, fun c hc => ?_⟩
        · simp only [List.mem_cons, List.not_mem_nil, or_false] at hc
          rcases hc with rfl | rfl
          · exact lt _ 0 (by decide)
          · exact lo _ _ la
        · simp only [List.mem_cons, List.not_mem_nil, or_false] at hc
          rcases hc with rfl | rfl
          · exact lt _ 1 (by decide)
          · exact lo _ _ lb
      refine lz_call (s := { s1 with heap := h' }) S L D1' D2' hz hz' hTI ⟨_, _, hTO⟩ ⟨.new h1, p1.at fun o e => hk _ o e⟩ ⟨.new h2, p2.at fun o e => hk _ o e⟩ fun h'' tk acc c as hk2 hS hla hG hacc => ?_
      dsimp only at hk2 hS hG ⊢
      have hk3 : ∀ b o, s1.heap.get? b = some o → h''.get? b = some o := fun b o e => by
        have lt := Heap.lt_size e
        have ne : ∀ N j b : Nat, b < N → b ≠ N + j := fun N j b h => by omega
        exact hk2 b o (ne _ 4 _ lt) (ne _ 3 _ lt) (ne _ 0 _ lt) (ne _ 1 _ lt) (hk b o e)
      obtain ⟨H', k1, k2, k3, k4, k5, k6, J⟩ := lz_laid (tk := tk) I1 hz rv rv2 hl hk3 (by rw [hsz]; omega) hS (by rw [hla, l1]) hG hacc
      exact ⟨.ref _, H', J, rfl, qq H' _ as k1 k2 k3 k4 k5 k6⟩
end
end Md
end MdLyPart
section MdRPart
set_option Elab.async false
set_option linter.all false
set_option maxRecDepth 100000
set_option maxHeartbeats 4000000
set_option pp.maxSteps 400
/-! list(zip(..)) -/
namespace Md
open PySem L2
theorem reps_zip {H : Hp} {vs : List V} {ds : List Dat} (r : Reps H vs ds) : ∀ {us : List V} {es : List Dat} {ts : List Addr}, Reps H us es → PySem.Paired (fun (t : Addr) (q : V × V) => H t = some (.tup [q.1, q.2])) ts (vs.zip us) → Reps H (ts.map V.ref) (zipD ds es) := by
  induction ds generalizing vs with
  | nil =>
    intro us es ts r2 p
    cases r
    cases p
    exact .nil
  | cons d ds ih =>
    intro us es ts r2 p
    cases r with
    | cons h t =>
      cases r2 with
      | nil => cases p; exact .nil
      | cons h2 t2 =>
        cases p with
        | cons g gs => exact .cons (.tup g (.cons h (.cons h2 .nil))) (ih t t2 gs)
section
variable {F : Fr} {X : Cx} {ρ : Env1} {a b : Expr} {pos p p2 q : Pos}
theorem ec_listZip {Φ : W → Prop} (hc : X.calm = true) (hg : Gl X "list") (hm : X.mg "list" = none) (hg2 : Gl X "zip") (hm2 : X.mg "zip" = none) (h : EC F X a ρ fun w1 => ∃ ds, w1 = .d (.tup ds) ∧ EC F X b ρ fun w2 => ∃ o es, w2 = .lst o es ∧ ds.length = es.length ∧ ds.length ≤ 1000 ∧ Φ (.lst true (zipD ds es)))
    (hs : starEach [a, b] X.env = (false, eval a X.env) :: starEach [b] X.env := by rfl) (hs2 : starEach [b] X.env = (false, eval b X.env) :: starEach [] X.env := by rfl) (hpl : (backTo q (starEach [b] X.env)).any (·.1) = false := by rfl)
    (hs3 : starEach [.Call (.Name "zip" p2) [a, b] [] q] X.env = (false, eval (.Call (.Name "zip" p2) [a, b] [] q) X.env) :: starEach [] X.env := by rfl) : EC F X (.Call (.Name "list" p) [.Call (.Name "zip" p2) [a, b] [] q] [] pos) ρ Φ := fun H0 H σ k Q qq =>
  PE.c (pe_listZip (b1 := false) (b2 := true) hc hg hm hg2 hm2 (pa_cons (cE.pe X a) (pa_cons (cE.pe X b) pa_nil hs2) hs) hs hpl hs3) (h.run k fun v1 H1 w1 e1 k1 r1 ⟨ds, ew1, p1⟩ => p1.run k1 fun v2 H2 w2 e2 k2 r2 ⟨o, es, ew2, hl, hle, p2⟩ => by
    subst ew1; subst ew2
    have r1' : Rep H2 v1 (.tup ds) := Rep.mono e2.tup r1
    obtain ⟨y, us, rfl, x2, x3, x4, _⟩ := r2
    cases r1' with
    | @tup x vs _ t2 t3 =>
      refine ⟨x, y, vs, us, rfl, SqT.of t2, SqL.of x2, by rw [t3.length, x3.length]; exact hl, Nat.le_trans (by rw [t3.length]; exact hle) (by decide), fun H' pp ts kp np nt pt hp hpair => ?_⟩
      have e3 : Ext F H2 H' := .of_ex kp
      have fr := F.fresh k2.inv np
      exact qq _ H' (.lst true (zipD ds es)) ((e1.trans e2).trans e3) (F.mono H2 H' (fun a o m e => kp a o e) k2.inv) ⟨pp, ts.map V.ref, rfl, hp, reps_zip (t3.mono e3.tup) (x3.mono e3.tup) hpair, fr, fun _ => fresh0 (e1.trans e2) fr np⟩ p2)
end
end Md
end MdRPart
section P14Part
set_option Elab.async false
set_option linter.all false
set_option maxRecDepth 100000
set_option maxHeartbeats 4000000
set_option pp.maxSteps 400
/-! the law's own near certificates; what it asks -/
namespace Md
open PySem L2
def sp_law_own_near : Spec := fun ws Φ => ∃ (s : Web) (b : List Web) (p q m : Nat), ws = [.deck, .d (dGarden s b), .d (dN p), .d (dN q), .d (dN m)] ∧ GardenOk s b ∧ p < s.n ∧ q < s.n ∧ m ≤ 1000 ∧ Φ (.d .non) ∧
  ∀ (tabs : List (List Item)) (ns : List Nat) (rows : Nat → Row) (x : Int), Tabs b rows tabs → tabs.length = m → WayTo s (rows m) p q ns x → Φ (.d (.tup [.tup (tabs.map dTabW), .tup (ns.map dN), .int x]))
def sp_law_told : Spec := fun ws Φ => ∃ (s : Web) (b : List Web) (p q m : Nat) (d : Int), ws = [.deck, .d (dGarden s b), .d (dN p), .d (dN q), .d (dN m), .d (.int d), .d (dOpt (far s b m p q))] ∧ GardenOk s b ∧ p < s.n ∧ q < s.n ∧ p ≠ q ∧ m ≤ 1000 ∧ 0 ≤ d ∧ Φ (.d (.bl true))
def sp_law_own : Spec := fun ws Φ => ∃ (s : Web) (b : List Web) (p q m : Nat), ws = [.deck, .d (dGarden s b), .d (dN p), .d (dN q), .d (dN m)] ∧ GardenOk s b ∧ p < s.n ∧ q < s.n ∧ p ≠ q ∧ m ≤ 1000 ∧ Φ (.d (.bl true))
/-- a web's way or none -/
def GoodTab (b : List Web) (r : Row) (tab : List Item) : Prop := tab.length = b.length ∧ ∀ (c : Nat) (W : Web) (ns : List Nat), b[c]? = some W → tab[c]? = some (some ns) → ∃ x, WayTo W r 0 1 ns x
theorem tabs_more {b : List Web} {rows : Nat → Row} {tabs : List (List Item)} {tab : List Item} {r' : Row} (T : Tabs b rows tabs) (t : Tab b (rows tabs.length) tab r') : Tabs b (fun j => if j = tabs.length + 1 then r' else rows j) (tabs ++ [tab]) := by
  refine ⟨by rw [if_neg (by omega)]; exact T.first, fun i tb h => ?_⟩
  have hi : i < tabs.length + 1 := by have := (List.getElem?_eq_some_iff.mp h).1; simpa using this
  by_cases e : i = tabs.length
  · subst e
    have : tb = tab := by simpa using h.symm
    subst this
    rw [if_neg (by omega), if_pos rfl]
    exact t
  · rw [List.getElem?_append_left (by omega)] at h
    rw [if_neg (by omega), if_neg (by omega)]
    exact T.step i tb h
section
variable {P : Program} {w : World} {K : PySem.W.Frag} {mg : Str → Option Value} {base : Heap} {f : Addr} {fd : FuncData}
theorem ok_law_own_near (F : Fun K "_law_own_near" "_law_own_near" s_law_own_near f fd) (B : Bt mg) (h_law_draw : HasFn P w K mg base "_law_draw" 1 (spD DK sp_law_draw)) (h_law_some_way : HasFn P w K mg base "_law_some_way" 2 (spD DK sp_law_some_way)) (h_law_way_sum : HasFn P w K mg base "_law_way_sum" 3 (spD CP sp_law_way_sum)) :
    FnOk P w K mg base CX0 4 f fd ["_law_deck_here", "_law_garden", "_law_p", "_law_q", "_law_n"] (spD DK sp_law_own_near) := by
  refine fnD F sc_law_own_near (by decide) (fun ws Φ ⟨i, l, p, q, m, h, _⟩ => by rw [h]; rfl) fun cdv A outer s0 H E G ws Φ hC hr hS => ?_
  obtain ⟨s, b, p, q, m, rfl, ok, hp, hq, hm, hN, hΦ⟩ := hS
  have h3 := ok.book.three
  have h1 := ok.book.one
  refine ss_cons (s_par2c (i := 5) (j := 6) rfl (sc_law_own_near).nd rfl rfl (.inr rfl) (.inl rfl) (ec_repL (Ev.then (ev_lst (eva_cons ev_int eva_nil) (.cons .nil)) ⟨_, _, rfl, Ev.then (ev_len rfl B.len (ev_ix (vd (i := 1) rfl rfl) ev_int rfl rfl) rfl) ⟨_, rfl, by omega, by rw [List.length_map]; omega, rfl, Ev.then (ev_lst eva_nil .nil) ⟨rfl, ?_⟩⟩⟩)))
  rw [List.length_map, Int.toNat_natCast, row0_rep]
  refine ss_cons (s_for pat_name rfl (pg_name (i := 7) (sc_law_own_near).nd rfl (.inl rfl)) PassesOwn.never (ei_range1 rfl B.range (Ev.then (vd (i := 4) rfl rfl) ⟨_, rfl, by omega, by omega,
    fun i ρ' => ∃ (rows : Nat → Row) (tabs : List (List Item)) (c7 c8 c9 : Option Md.W), ρ' = [some .deck, some (.d (dGarden s b)), some (.d (dN p)), some (.d (dN q)), some (.d (dN m)), some (.lst true ((rows i).map dOpt)), some (.lst true (tabs.map dTabW)), c7, c8, c9, none, none, none] ∧ Tabs b rows tabs ∧ tabs.length = i,
    ⟨fun _ => ones b, [], _, _, _, rfl, ⟨rfl, fun i tab h => by simp at h⟩, rfl⟩, ?_, ?_⟩)))
  · rintro i dd ρ' hd ⟨rows, tabs, c7, c8, c9, rfl, T, htl⟩
    have hi : i < m := by have := (List.getElem?_eq_some_iff.mp hd).1; simpa [rangeD] using this
    have rl : (rows i).length = b.length := T.len i (by omega)
    refine ⟨_, rfl, ss_cons (s_lc (i := 8) (own := [("_law_growth_here", 11)]) b dWeb (fun W r => ∃ it : Item, r = some (dItem it) ∧ ∀ ns, it = some ns → ∃ x, WayTo W (rows i) 0 1 ns x) pat_name rfl (sc_law_own_near).nd rfl rfl rfl (blkOk_by (N := N_law_own_near) (sc := defScope s_law_own_near) (by decide +kernel)) (by simp) (by omega) (fun s H C cl fp => pg_name (i := 11) (sc_law_own_near).nd rfl (.inl rfl))
      (ei_tup (Ev.then (ev_ix (vd (i := 1) rfl rfl) ev_int rfl rfl) ⟨_, rfl, rfl⟩)) (fun W hW => ⟨_, rfl, fun s H C cl fp => ets_nil ⟨fun _ s H C cl fp => ?_, fun e => nomatch e⟩⟩) fun out ho => ?_)⟩
    · obtain ⟨gok, g2⟩ := ok.book.each W hW
      exact ec_callD hC h_law_some_way (hr.mono (by decide)) rfl (EvA.then (eva_cons (vk (i := 0) rfl rfl) (eva_cons (vd (i := 11) rfl rfl) (eva_cons (vl (i := 5) rfl rfl) (eva_cons ev_int (eva_cons ev_int eva_nil))))) ⟨W, rows i, 0, 1, rfl, by rw [rl]; exact gok, by omega, by omega, fun it hit => ⟨_, rfl, it, rfl, hit⟩⟩)
    · obtain ⟨tab, e1, e2, e3⟩ := outs_ex ho
      have gt : GoodTab b (rows i) tab := ⟨e2, fun c W ns hW ht => e3 c W _ hW ht ns rfl⟩
      subst e1
      -- behind the table
      have rest : ∀ tab : List Item, GoodTab b (rows i) tab → SS G (bx P w K mg base N_law_own_near "_law_own_near" s_law_own_near f cdv A outer s0 H E) ((match (defBody s_law_own_near).getD 1 (.Pass ⟨0, 0, 0, 0⟩) with | .For _ _ bd _ _ => bd | _ => []).drop 2) [some .deck, some (.d (dGarden s b)), some (.d (dN p)), some (.d (dN q)), some (.d (dN m)), some (.lst true ((rows i).map dOpt)), some (.lst true (tabs.map dTabW)), some (.d dd), some (.lst true (tab.map dItem)), c9, none, none, none]
          { nx := fun ρ' => ∃ (rows : Nat → Row) (tabs : List (List Item)) (c7 c8 c9 : Option Md.W), ρ' = [some .deck, some (.d (dGarden s b)), some (.d (dN p)), some (.d (dN q)), some (.d (dN m)), some (.lst true ((rows (i + 1)).map dOpt)), some (.lst true (tabs.map dTabW)), c7, c8, c9, none, none, none] ∧ Tabs b rows tabs ∧ tabs.length = i + 1,
            ct := fun ρ' => ∃ (rows : Nat → Row) (tabs : List (List Item)) (c7 c8 c9 : Option Md.W), ρ' = [some .deck, some (.d (dGarden s b)), some (.d (dN p)), some (.d (dN q)), some (.d (dN m)), some (.lst true ((rows (i + 1)).map dOpt)), some (.lst true (tabs.map dTabW)), c7, c8, c9, none, none, none] ∧ Tabs b rows tabs ∧ tabs.length = i + 1,
            bk := fun ρ' => SS G (bx P w K mg base N_law_own_near "_law_own_near" s_law_own_near f cdv A outer s0 H E) ((defBody s_law_own_near).drop 2) ρ' { nx := fun _ => Φ (.d .non), rt := Φ }, rt := Φ } := fun tab gt => by
        refine ss_cons (s_set (i := 9) (sc_law_own_near).nd rfl (.inl rfl) (ec_listZip rfl rfl B.list rfl B.zip (Ev.then (ev_ix (vd (i := 1) rfl rfl) ev_int rfl rfl) ⟨_, rfl, Ev.then (vl (i := 8) rfl rfl) ⟨_, _, rfl, by rw [List.length_map, List.length_map, gt.1], by rw [List.length_map]; omega, rfl, ?_⟩⟩)))
        rw [zip_enc ⟨0, []⟩ none gt.1.symm]
        refine ss_cons (s_set (i := 5) (sc_law_own_near).nd rfl (.inr rfl) (EC.frz 9 ?_))
        refine ec_lc (own := [("_law_growth_here", 11), ("_law_it", 12)]) (List.range b.length) (fun c => Dat.tup [dWeb (bAt b c), dItem (tAt tab c)]) (fun c r => ∃ o : Option Int, r = some (dOpt o) ∧ ((tAt tab c = none ∧ o = none) ∨ ∃ ns x, tAt tab c = some ns ∧ o = some x ∧ WayTo (bAt b c) (rows i) 0 1 ns x)) pat_two rfl (sc_law_own_near).nd (blkOk_by (N := N_law_own_near) (sc := defScope s_law_own_near) (by decide +kernel)) (by simp) (by simp; omega)
          (fun s H C cl fp => pg_tup rfl (pgs_cons (pg_name (i := 11) (sc_law_own_near).nd rfl (.inl rfl)) (pgs_cons (pg_name (i := 12) (sc_law_own_near).nd rfl (.inl rfl)) pgs_nil)))
          (ei_var (i := 9) rfl (.inl rfl) rfl rfl) (fun c hc => ⟨_, ⟨_, _, rfl, rfl⟩, fun s H C cl fp => ets_nil ⟨fun _ s H C cl fp => ?_, fun e => nomatch e⟩⟩) fun out ho => ?_
        · have hcb : c < b.length := List.mem_range.mp hc
          have gW := bAt_get hcb
          have gT := tAt_get (t := tab) (by rw [gt.1]; exact hcb)
          refine ec_if (EvT.then (et_isN (vd (i := 12) rfl rfl)) ⟨fun hb => ?_, fun hb => ?_⟩)
          · cases e : tAt tab c with
            | none => exact Ev.then ev_non ⟨_, rfl, none, rfl, .inl ⟨rfl, rfl⟩⟩
            | some ns => rw [e] at hb; cases hb
          · cases e : tAt tab c with
            | none => rw [e] at hb; cases hb
            | some ns' =>
              rw [e] at gT
              obtain ⟨y, wy⟩ := gt.2 c _ ns' gW gT
              obtain ⟨gok, g2⟩ := ok.book.each (bAt b c) (List.mem_of_getElem? gW)
              exact Ev.then (w := .d (.int y)) (ev_call0 h_law_way_sum (hr.mono (by decide)) rfl (eva_cons (vd (i := 11) rfl rfl) (eva_cons (vd (i := 12) rfl rfl) (eva_cons ev_int (eva_cons ev_int (eva_cons (vl (i := 5) rfl rfl) eva_nil))))) ⟨bAt b c, rows i, 0, 1, ns', y, rfl, by rw [rl]; exact gok, by omega, wy, rfl, (fun z => nomatch z), rfl⟩) ⟨_, rfl, some y, rfl, .inr ⟨ns', y, rfl, rfl, wy⟩⟩
        · obtain ⟨r', f1, f2, f3⟩ := outs_ex ho
          rw [List.length_range] at f2
          have tb : Tab b (rows i) tab r' := by
            refine ⟨gt.1, f2, fun c W hW ht => ?_, fun c W ns hW ht => ?_⟩
            · have hc : c < b.length := (List.getElem?_eq_some_iff.mp hW).1
              have gr := row_at (r := r') (v := c) (by omega)
              have tt := tAt_get (t := tab) (c := c) (by rw [gt.1]; exact hc)
              rw [ht] at tt
              rcases f3 c c _ (List.getElem?_range hc) gr with ⟨_, h⟩ | ⟨ns, x, h, _⟩
              · exact h
              · rw [h] at tt; cases tt
            · have hc : c < b.length := (List.getElem?_eq_some_iff.mp hW).1
              have gr := row_at (r := r') (v := c) (by omega)
              have tt := tAt_get (t := tab) (c := c) (by rw [gt.1]; exact hc)
              rw [ht] at tt
              have gW := bAt_get hc
              rw [hW] at gW
              rcases f3 c c _ (List.getElem?_range hc) gr with ⟨h, _⟩ | ⟨ns', x, h, hx, wy⟩
              · rw [h] at tt; cases tt
              · rw [h] at tt; cases tt
                rw [← Option.some.inj gW] at wy
                exact ⟨x, hx, wy⟩
          subst f1
          have T2 := tabs_more T (by rw [htl]; exact tb)
          refine ⟨rfl, ss_one (s_app (i := 6) rfl (.inl rfl) rfl (by rw [List.length_map]; omega) (Ev.then (ev_tuple rfl B.tuple (vl (i := 8) rfl rfl) rfl) ⟨_, rfl, _, tabs ++ [tab], ?c7, ?c8, ?c9, ?eq, T2, by simp [htl]⟩))⟩
          case eq =>
            rw [htl, if_pos rfl, List.map_append]
            rfl
      refine ss_cons (s_if (et_cmpI op_eqI (nomark _) (ec_callD hC h_law_draw (hr.mono (by decide)) rfl (EvA.then (eva_cons (vk (i := 0) rfl rfl) (eva_cons ev_int eva_nil)) ⟨12, rfl, by decide, by decide, fun u h0 h1' => ⟨u, rfl, Ev.then ev_int ⟨0, rfl, fun hb => ?_, fun hb => ss_nil (rest tab gt)⟩⟩⟩))))
      refine ss_one (s_setL (i := 8) rfl (.inl rfl) rfl (Ev.then ev_non ⟨_, rfl, ec_callD hC h_law_draw (hr.mono (by decide)) rfl (EvA.then (eva_cons (vk (i := 0) rfl rfl) (eva_cons (ev_len rfl B.len (vl (i := 8) rfl rfl) rfl) eva_nil)) ⟨_, rfl, by rw [List.length_map, e2]; omega, by rw [List.length_map, e2]; omega, fun v h2 h3' => ?_⟩)⟩))
      obtain ⟨j, rfl⟩ := Int.eq_ofNat_of_zero_le h2
      rw [List.length_map] at h3'
      have hj : j < tab.length := by omega
      refine ⟨(j : Int), j, rfl, by rw [List.length_map]; exact ixN_nat hj, ?_⟩
      have gt2 : GoodTab b (rows i) (tab.set j none) := ⟨by rw [List.length_set]; exact e2, fun c W ns hW ht => by
        by_cases e : c = j
        · subst e
          rw [List.getElem?_set_self hj] at ht; cases ht
        · rw [List.getElem?_set_ne (Ne.symm e)] at ht
          exact gt.2 c W ns hW ht⟩
      have := rest _ gt2
      rw [List.map_set] at this
      exact this
  · rintro ρ' ⟨rows, tabs, c7, c8, c9, rfl, T, htl⟩
    have : (rangeD 0 ((m : Nat) : Int).toNat).length = m := by simp [rangeD]
    rw [this] at htl ⊢
    have rl : (rows m).length = b.length := T.len m (by omega)
    refine ss_cons (s_set (i := 10) (sc_law_own_near).nd rfl (.inl rfl) (ec_callD hC h_law_some_way (hr.mono (by decide)) rfl (EvA.then (eva_cons (vk (i := 0) rfl rfl) (eva_cons (ev_ix (vd (i := 1) rfl rfl) ev_int rfl rfl) (eva_cons (vl (i := 5) rfl rfl) (eva_cons (vd (i := 2) rfl rfl) (eva_cons (vd (i := 3) rfl rfl) eva_nil))))) ⟨s, rows m, p, q, rfl, by rw [rl]; exact ok.start, hp, hq, fun it hit => ⟨rfl, ?_⟩⟩)))
    refine ss_one (s_ret (ec_if (EvT.then (et_isN (vd (i := 10) rfl rfl)) ⟨fun hb => Ev.then ev_non hN, fun hb => ?_⟩)))
    cases it with
    | none => cases hb
    | some ns =>
      obtain ⟨x, wx⟩ := hit ns rfl
      refine Ev.then (ev_tup (eva_cons (ev_tuple rfl B.tuple (vl (i := 6) rfl rfl) rfl) (eva_cons (vd (i := 10) rfl rfl) (eva_cons (ev_call0 (w := .d (.int x)) h_law_way_sum (hr.mono (by decide)) rfl (eva_cons (ev_ix (vd (i := 1) rfl rfl) ev_int rfl rfl) (eva_cons (vd (i := 10) rfl rfl) (eva_cons (vd (i := 2) rfl rfl) (eva_cons (vd (i := 3) rfl rfl) (eva_cons (vl (i := 5) rfl rfl) eva_nil))))) ⟨s, rows m, p, q, ns, x, rfl, by rw [rl]; exact ok.start, hp, wx, rfl, (fun z => nomatch z), rfl⟩) eva_nil))) (.cons (.cons (.cons .nil)))) ?_
      exact hΦ tabs ns rows x T htl wx
end
end Md
end P14Part
section P15Part
set_option Elab.async false
set_option linter.all false
set_option maxRecDepth 100000
set_option maxHeartbeats 4000000
set_option pp.maxSteps 400
/-! what the law asks -/
namespace Md
open PySem L2
theorem tab_form (b : List Web) (st : List Int) (M : Int) : TabForm b (tabOf b st M) := ⟨tabOf_len b st M, fun c W h hW hh => by
  unfold tabOf at hh
  rw [List.getElem?_map, hW] at hh
  cases hh
  exact hts_len W _ 0 M⟩
section
variable {P : Program} {w : World} {K : PySem.W.Frag} {mg : Str → Option Value} {base : Heap} {f : Addr} {fd : FuncData}
theorem ok_law_told (F : Fun K "_law_is_told_right" "_law_is_told_right" s_law_is_told_right f fd) (B : Bt mg) (h_law_draw : HasFn P w K mg base "_law_draw" 1 (spD DK sp_law_draw)) (h_judge_near : HasFn P w K mg base "judge_near" 12 (spD CP sp_judge_near)) (k_judge_near : HasFnK P w K mg base "judge_near" 12 ["d", "n", "q", "p", "garden"] (spD CP sp_judge_near))
    (h_law_is_certificate : HasFn P w K mg base "_law_is_certificate" 5 (spD CP sp_law_is_certificate)) (h_near_holds : HasFn P w K mg base "near_holds" 12 (spD CP sp_near_holds)) :
    FnOk P w K mg base CX0 13 f fd ["_law_deck_here", "_law_garden", "_law_p", "_law_q", "_law_n", "_law_d", "_law_distance_here"] (spD DK sp_law_told) := by
  refine fnD F sc_law_is_told_right (by decide) (fun ws Φ ⟨i, l, p, q, m, d, h, _⟩ => by rw [h]; rfl) fun cdv A outer s0 H E G ws Φ hC hr hS => ?_
  obtain ⟨s, b, p, q, m, d, rfl, ok, hp, hq, hpq, hm, hd, hΦ⟩ := hS
  have near : ∀ x tabs ns, far s b m p q = some x → x ≤ d → Tabs b (ends b) tabs → tabs.length = m → WayTo s (ends b m) p q ns x →
      SS G (bx P w K mg base N_law_is_told_right "_law_is_told_right" s_law_is_told_right f cdv A outer s0 H E) ((defBody s_law_is_told_right).drop 1) [some .deck, some (.d (dGarden s b)), some (.d (dN p)), some (.d (dN q)), some (.d (dN m)), some (.d (.int d)), some (.d (dOpt (far s b m p q))), some (.d (dNear tabs ns))] { nx := fun _ => Φ (.d .non), rt := Φ } := fun x tabs ns hx hxd T hl wy => by
    rw [hx]
    have hdx : decide (x ≤ d) = true := decide_eq_true hxd
    refine ss_cons (s_ifF (EvT.is (evT_not (evT_val (ev_call0 (w := .d (.bl true)) h_law_is_certificate (hr.mono (by decide)) rfl (eva_cons (vd (i := 1) rfl rfl) (eva_cons (vd (i := 2) rfl rfl) (eva_cons (vd (i := 3) rfl rfl) (eva_cons (vd (i := 4) rfl rfl) (eva_cons (vd (i := 5) rfl rfl) (eva_cons (vd (i := 7) rfl rfl) eva_nil)))))) ⟨s, b, p, q, m, d, dNear tabs ns, rfl, ok, hp, hq, hm, .inl ⟨tabs, ns, ends b, x, rfl, hl, T, wy, rfl, (fun z => nomatch z), by rw [hdx]⟩⟩))) rfl) (ss_nil ?_))
    refine ss_cons (s_ifF (EvT.is (et_neB (ev_eqS (ev_ix (vd (i := 7) rfl rfl) ev_int rfl rfl) ev_str) (ev_and2 (ev_notN (vd (i := 6) rfl rfl)) (fun _ => ev_le (vd (i := 6) rfl rfl) (vd (i := 5) rfl rfl)))) ?_) (ss_nil ?_))
    · rw [hdx]; simp [dOpt, isNon]
    refine ss_one (s_ret (Ev.then (ev_isB (ev_call0 (w := .d (.bl true)) h_near_holds (hr.mono (by decide)) rfl (eva_cons (vd (i := 1) rfl rfl) (eva_cons (vd (i := 2) rfl rfl) (eva_cons (vd (i := 3) rfl rfl) (eva_cons (vd (i := 4) rfl rfl) (eva_cons (vd (i := 5) rfl rfl) (eva_cons (vd (i := 7) rfl rfl) eva_nil)))))) ⟨s, b, p, q, m, d, dNear tabs ns, rfl, ok, hp, hq, hpq, hm, hd, .inl ⟨tabs, ns, ends b, x, rfl, hl, T, wy, rfl, (fun z => nomatch z), by rw [hdx]⟩⟩) ev_bl) hΦ))
  have over : (∀ y, far s b m p q = some y → d < y) →
      SS G (bx P w K mg base N_law_is_told_right "_law_is_told_right" s_law_is_told_right f cdv A outer s0 H E) ((defBody s_law_is_told_right).drop 1) [some .deck, some (.d (dGarden s b)), some (.d (dN p)), some (.d (dN q)), some (.d (dN m)), some (.d (.int d)), some (.d (dOpt (far s b m p q))), some (.d (dOver (oTabs b (d + 1) m) (hts s (rowI (stp b (d + 1) m)) p (d + 1))))] { nx := fun _ => Φ (.d .non), rt := Φ } := fun hf => by
    have hov := over_made ok hd hp hq hf
    have hol : (oTabs b (d + 1) m).length = m := by simp [oTabs]
    have hof : ∀ t, t ∈ oTabs b (d + 1) m → TabForm b t := fun t ht => by
      unfold oTabs at ht
      obtain ⟨i, _, rfl⟩ := List.mem_map.mp ht
      exact tab_form b _ _
    have hhl := hts_len s (rowI (stp b (d + 1) m)) p (d + 1)
    generalize oTabs b (d + 1) m = tabs at *
    generalize hts s (rowI (stp b (d + 1) m)) p (d + 1) = hh at *
    refine ss_cons (s_ifF (EvT.is (evT_not (evT_val (ev_call0 (w := .d (.bl true)) h_law_is_certificate (hr.mono (by decide)) rfl (eva_cons (vd (i := 1) rfl rfl) (eva_cons (vd (i := 2) rfl rfl) (eva_cons (vd (i := 3) rfl rfl) (eva_cons (vd (i := 4) rfl rfl) (eva_cons (vd (i := 5) rfl rfl) (eva_cons (vd (i := 7) rfl rfl) eva_nil)))))) ⟨s, b, p, q, m, d, dOver tabs hh, rfl, ok, hp, hq, hm, .inr ⟨tabs, hh, rfl, hol, hof, hhl, rfl, (fun z => nomatch z), by rw [hov]⟩⟩))) rfl) (ss_nil ?_))
    refine ss_cons (s_ifF (EvT.is (et_neB (y := false) (ev_eqS (ev_ix (vd (i := 7) rfl rfl) ev_int rfl rfl) ev_str) ?ev) (by decide)) (ss_nil ?_))
    case ev =>
      cases e : far s b m p q with
      | none => exact Ev.is (ev_and2 (q := false) (ev_notN (vd (i := 6) rfl rfl)) (fun z => absurd z (by decide))) rfl
      | some y =>
        refine Ev.is (ev_and2 (ev_notN (vd (i := 6) rfl rfl)) (fun _ => ev_le (vd (i := 6) rfl rfl) (vd (i := 5) rfl rfl))) ?_
        have := hf y e
        rw [decide_eq_false (by omega : ¬ y ≤ d)]
        rfl
    refine ss_one (s_ret (Ev.then (ev_isB (ev_call0 (w := .d (.bl true)) h_near_holds (hr.mono (by decide)) rfl (eva_cons (vd (i := 1) rfl rfl) (eva_cons (vd (i := 2) rfl rfl) (eva_cons (vd (i := 3) rfl rfl) (eva_cons (vd (i := 4) rfl rfl) (eva_cons (vd (i := 5) rfl rfl) (eva_cons (vd (i := 7) rfl rfl) eva_nil)))))) ⟨s, b, p, q, m, d, dOver tabs hh, rfl, ok, hp, hq, hpq, hm, hd, .inr ⟨tabs, hh, rfl, hol, hof, hhl, rfl, (fun z => nomatch z), by rw [hov]⟩⟩) ev_bl) hΦ))
  refine ss_cons (s_set (i := 7) (sc_law_is_told_right).nd rfl (.inl rfl) (ec_if (et_cmpI op_eqI (nomark _) (ec_callD hC h_law_draw (hr.mono (by decide)) rfl (EvA.then (eva_cons (vk (i := 0) rfl rfl) (eva_cons ev_int eva_nil)) ⟨2, rfl, by decide, by decide, fun u h0 h1 => ⟨u, rfl, Ev.then ev_int ⟨0, rfl, fun hb => ?_, fun hb => ?_⟩⟩⟩)))))
  · exact ec_call0 h_judge_near (hr.mono (by decide)) rfl (EvA.then (eva_cons (vd (i := 1) rfl rfl) (eva_cons (vd (i := 2) rfl rfl) (eva_cons (vd (i := 3) rfl rfl) (eva_cons (vd (i := 4) rfl rfl) (eva_cons (vd (i := 5) rfl rfl) eva_nil))))) ⟨rfl, s, b, p, q, m, d, rfl, ok, hm, hp, hq, hpq, hd, fun x tabs ns hx hxd T hl wy => ⟨rfl, (fun z => nomatch z), rfl, near x tabs ns hx hxd T hl wy⟩, fun hf => ⟨rfl, (fun z => nomatch z), rfl, over hf⟩⟩)
  · exact ec_callK k_judge_near (hr.mono (by decide)) rfl (ek_cons (Ev.then (vd (i := 5) rfl rfl) (ek_cons (Ev.then (vd (i := 4) rfl rfl) (ek_cons (Ev.then (vd (i := 3) rfl rfl) (ek_cons (Ev.then (vd (i := 2) rfl rfl) (ek_cons (Ev.then (vd (i := 1) rfl rfl) (ek_nil ⟨rfl, rfl, s, b, p, q, m, d, rfl, ok, hm, hp, hq, hpq, hd, fun x tabs ns hx hxd T hl wy => ⟨rfl, (fun z => nomatch z), rfl, near x tabs ns hx hxd T hl wy⟩, fun hf => ⟨rfl, (fun z => nomatch z), rfl, over hf⟩⟩)))))))))))
theorem ok_law_own (F : Fun K "_law_are_own_right" "_law_are_own_right" s_law_are_own_right f fd) (B : Bt mg) (h_law_own_near : HasFn P w K mg base "_law_own_near" 4 (spD DK sp_law_own_near)) (h_law_own_over : HasFn P w K mg base "_law_own_over" 4 (spD DK sp_law_own_over)) (h_law_is_flat : HasFn P w K mg base "_law_is_flat" 3 (spD CP sp_law_is_flat)) (h_law_is_over : HasFn P w K mg base "_law_is_over" 4 (spD CP sp_law_is_over))
    (h_near_holds : HasFn P w K mg base "near_holds" 12 (spD CP sp_near_holds)) (k_near_holds : HasFnK P w K mg base "near_holds" 12 ["thing", "d", "n", "q", "p", "garden"] (spD CP sp_near_holds)) :
    FnOk P w K mg base CX0 13 f fd ["_law_deck_here", "_law_garden", "_law_p", "_law_q", "_law_n"] (spD DK sp_law_own) := by
  refine fnD F sc_law_are_own_right (by decide) (fun ws Φ ⟨i, l, p, q, m, h, _⟩ => by rw [h]; rfl) fun cdv A outer s0 H E G ws Φ hC hr hS => ?_
  obtain ⟨s, b, p, q, m, rfl, ok, hp, hq, hpq, hm, hΦ⟩ := hS
  have h3 := ok.book.three
  have rest : ∀ c5 c6 c7 : Option Md.W, SS G (bx P w K mg base N_law_are_own_right "_law_are_own_right" s_law_are_own_right f cdv A outer s0 H E) ((defBody s_law_are_own_right).drop 2) [some .deck, some (.d (dGarden s b)), some (.d (dN p)), some (.d (dN q)), some (.d (dN m)), c5, c6, c7, none, none, none, none, none] { nx := fun _ => Φ (.d .non), rt := Φ } := fun c5 c6 c7 => by
    refine ss_cons (s_pat pat_two (pg_tup rfl (pgs_cons (pg_name (i := 8) (sc_law_are_own_right).nd rfl (.inl rfl)) (pgs_cons (pg_name (i := 9) (sc_law_are_own_right).nd rfl (.inl rfl)) pgs_nil))) (ec_callD hC h_law_own_over (hr.mono (by decide)) rfl (EvA.then (eva_cons (vk (i := 0) rfl rfl) (eva_cons (vd (i := 1) rfl rfl) (eva_cons (vd (i := 2) rfl rfl) (eva_cons (vd (i := 3) rfl rfl) (eva_cons (vd (i := 4) rfl rfl) eva_nil))))) ⟨s, b, p, q, m, rfl, ok, hp, hq, hm, fun tabs h htl hform hhl => ⟨_, _, rfl, ⟨_, _, rfl, rfl⟩, ?_⟩⟩)))
    refine ss_cons (s_par2 (i := 6) (j := 10) rfl (sc_law_are_own_right).nd rfl rfl (by decide) rfl rfl (Ev.then (ev_tup (eva_cons ev_str (eva_cons (vd (i := 8) rfl rfl) (eva_cons (vd (i := 9) rfl rfl) eva_nil))) (.cons (.cons (.cons .nil)))) ⟨rfl, Ev.then (ev_sub (ev_ix (vd (i := 9) rfl rfl) (vd (i := 3) rfl rfl) rfl (at0_get (by omega))) ev_int) ⟨rfl, ?_⟩⟩))
    -- the steps of the last table
    refine ss_cons (s_if (EvT.then (b := !flatB s (if 0 < m then ovSt (tabs.getD (m - 1) []) else [1, 1, 1]) h) (evT_not (evT_val (ev_call0 (w := .d (.bl (flatB s (if 0 < m then ovSt (tabs.getD (m - 1) []) else [1, 1, 1]) h))) h_law_is_flat (hr.mono (by decide)) rfl (eva_cons (ev_ix (vd (i := 1) rfl rfl) ev_int rfl rfl) (eva_cons (vd (i := 9) rfl rfl) (eva_cons (w := .lst true ((if 0 < m then ovSt (tabs.getD (m - 1) []) else [1, 1, 1]).map Dat.int)) ?steps eva_nil))) ⟨s, _, _, h, rfl, ok.start, ?sl, hhl, rfl, (fun z => nomatch z), rfl⟩))) ⟨fun hb => ?_, fun hb => ?_⟩))
    case sl =>
      by_cases hm0 : 0 < m
      · rw [if_pos hm0]
        have hmem : tabs.getD (m - 1) [] ∈ tabs := by
          rw [List.getD_eq_getElem?_getD, List.getElem?_eq_getElem (by omega)]
          exact List.getElem_mem _
        unfold ovSt
        rw [List.length_map, (hform _ hmem).1]
        exact Nat.le_refl _
      · rw [if_neg hm0]; exact h3
    case steps =>
      by_cases hm0 : 0 < m
      · rw [if_pos hm0]
        have hlast : tabs[m - 1]? = some (tabs.getD (m - 1) []) := by rw [List.getD_eq_getElem?_getD, List.getElem?_eq_getElem (by omega)]; rfl
        generalize tabs.getD (m - 1) [] = tab at hlast
        have tf := hform tab (List.mem_of_getElem? hlast)
        refine ec_if (EvT.then (et_gt (vd (i := 4) rfl rfl) ev_int) ⟨fun _ => ?_, fun hb => absurd (of_decide_eq_false hb) (by omega)⟩)
        refine ec_lc (own := [("_law_it", 12)]) tab dInts (fun h r => r = some (.int (at0 h 1))) pat_name rfl (sc_law_are_own_right).nd (blkOk_by (N := N_law_are_own_right) (sc := defScope s_law_are_own_right) (by decide +kernel)) (by simp) (by rw [tf.1]; omega) (fun s H C cl fp => pg_name (i := 12) (sc_law_are_own_right).nd rfl (.inl rfl))
          (ei_tup (Ev.then (ev_ix (vd (i := 8) rfl rfl) ev_negc (d := dTabI tab) rfl ?_) ⟨_, rfl, rfl⟩)) (fun hh hmm => ⟨_, rfl, fun s H C cl fp => ets_nil ⟨fun _ s H C cl fp => ?_, fun e => nomatch e⟩⟩) fun out ho => ?_
        · unfold atI ixN
          rw [List.length_map, if_neg (by omega), if_pos (by omega)]
          have : (-1 + (tabs.length : Int)).toNat = m - 1 := by omega
          rw [this]
          show (tabs.map dTabI)[m - 1]? = _
          rw [List.getElem?_map, hlast]; rfl
        · obtain ⟨c, hc⟩ := List.getElem?_of_mem hmm
          have hcb : c < b.length := by have := (List.getElem?_eq_some_iff.mp hc).1; rw [tf.1] at this; exact this
          have hl2 := tf.2 c _ hh (bAt_get hcb) hc
          have := (ok.book.each (bAt b c) (List.mem_of_getElem? (bAt_get hcb))).2
          exact Ev.then (ev_ix (vd (i := 12) rfl rfl) ev_int rfl (at0_get (i := 1) (by omega))) ⟨_, rfl, rfl⟩
        · rw [outs_map (f := fun h => Dat.int (at0 h 1)) ho]
          unfold ovSt
          rw [List.map_map]
          rfl
      · rw [if_neg hm0]
        exact ec_if (EvT.then (et_gt (vd (i := 4) rfl rfl) ev_int) ⟨fun hb => absurd (of_decide_eq_true hb) (by omega), fun _ => ev_lst (eva_cons ev_int (eva_cons ev_int (eva_cons ev_int eva_nil))) (.cons (.cons (.cons .nil)))⟩)
    · exact ss_one (s_ret (Ev.then ev_bl hΦ))
    refine ss_nil (ss_cons (s_set (i := 11) (sc_law_are_own_right).nd rfl (.inl rfl) (Ev.then (w := .d (.bl (overB s b p q (at0 h q - 1) tabs h))) (ev_call0 h_law_is_over (hr.mono (by decide)) rfl (eva_cons (vd (i := 1) rfl rfl) (eva_cons (vd (i := 2) rfl rfl) (eva_cons (vd (i := 3) rfl rfl) (eva_cons (vd (i := 10) rfl rfl) (eva_cons (vd (i := 8) rfl rfl) (eva_cons (vd (i := 9) rfl rfl) eva_nil)))))) ⟨s, b, p, q, _, tabs, h, rfl, ok, hp, hq, by omega, hform, hhl, rfl, (fun z => nomatch z), rfl⟩) ⟨rfl, ?_⟩)))
    refine ss_cons (s_ifF (EvT.is (evT_and2 (q := false) (et_ge (vd (i := 10) rfl rfl) ev_int) (fun hge => ?ne)) (by simp)) (ss_nil ?_))
    case ne =>
      have hd0 := of_decide_eq_true hge
      refine EvT.is (et_neS (x := reprS (.bl (overB s b p q (at0 h q - 1) tabs h))) (y := reprS (.bl (overB s b p q (at0 h q - 1) tabs h))) (ec_repr rfl B.repr (Ev.then (w := .d (.bl (overB s b p q (at0 h q - 1) tabs h))) (ev_call0 h_near_holds (hr.mono (by decide)) rfl (eva_cons (vd (i := 1) rfl rfl) (eva_cons (vd (i := 2) rfl rfl) (eva_cons (vd (i := 3) rfl rfl) (eva_cons (vd (i := 4) rfl rfl) (eva_cons (vd (i := 10) rfl rfl) (eva_cons (vd (i := 6) rfl rfl) eva_nil)))))) ⟨s, b, p, q, m, _, dOver tabs h, rfl, ok, hp, hq, hpq, hm, hd0, .inr ⟨tabs, h, rfl, htl, hform, hhl, rfl, (fun z => nomatch z), rfl⟩⟩) ⟨_, rfl, trivial, rfl⟩))
        (ec_repr rfl B.repr (Ev.then (vd (i := 11) rfl rfl) ⟨_, rfl, trivial, rfl⟩))) (by simp)
    obtain ⟨M, hM, hM0, hMq⟩ : ∃ M : Int, M = (if at0 h q - 1 + 1 > 0 then at0 h q - 1 + 1 else 0) ∧ 0 ≤ M ∧ at0 h q ≤ M := by
      refine ⟨_, rfl, ?_, ?_⟩
      · split <;> omega
      · split <;> omega
    have hov : overB s b p q M tabs h = false := by
      unfold overB
      cases ovRun b (b.map fun _ => 1) tabs with
      | none => rfl
      | some st =>
        show (flatB s st h && (decide (at0 h p = 0) && decide (M < at0 h q))) = false
        rw [decide_eq_false (by omega : ¬ M < at0 h q)]
        simp
    refine ss_one (s_ret (Ev.then (ev_isB (x := false) (ev_call0 (w := .d (.bl false)) h_near_holds (hr.mono (by decide)) rfl (eva_cons (vd (i := 1) rfl rfl) (eva_cons (vd (i := 2) rfl rfl) (eva_cons (vd (i := 3) rfl rfl) (eva_cons (vd (i := 4) rfl rfl) (eva_cons (w := .d (.int M)) (ec_max rfl rfl B.max (EvA.then (eva_cons ev_int (eva_cons (ev_add (vd (i := 10) rfl rfl) ev_int) eva_nil)) ⟨0, _, rfl, by rw [hM]⟩)) (eva_cons (vd (i := 6) rfl rfl) eva_nil)))))) ⟨s, b, p, q, m, M, dOver tabs h, rfl, ok, hp, hq, hpq, hm, hM0, .inr ⟨tabs, h, rfl, htl, hform, hhl, rfl, (fun z => nomatch z), by rw [hov]⟩⟩) ev_bl) hΦ))
  refine ss_cons (s_set (i := 5) (sc_law_are_own_right).nd rfl (.inl rfl) (ec_callD hC h_law_own_near (hr.mono (by decide)) rfl (EvA.then (eva_cons (vk (i := 0) rfl rfl) (eva_cons (vd (i := 1) rfl rfl) (eva_cons (vd (i := 2) rfl rfl) (eva_cons (vd (i := 3) rfl rfl) (eva_cons (vd (i := 4) rfl rfl) eva_nil))))) ⟨s, b, p, q, m, rfl, ok, hp, hq, hm, ⟨rfl, ?_⟩, fun tabs ns rows x T htl wy => ⟨rfl, ?_⟩⟩)))
  · exact ss_cons (s_ifF (EvT.is (et_notN (vd (i := 5) rfl rfl)) rfl) (ss_nil (rest _ _ _)))
  · have x1 : 1 ≤ x := wayTo_pos (T.pos m (by omega)) hpq wy
    refine ss_cons (s_ifT (EvT.is (et_notN (vd (i := 5) rfl rfl)) rfl) ?_)
    refine ss_cons (s_par2 (i := 6) (j := 7) rfl (sc_law_are_own_right).nd rfl rfl (by decide) rfl rfl (Ev.then (ev_tup (eva_cons ev_str (eva_cons (ev_ix (vd (i := 5) rfl rfl) ev_int rfl rfl) (eva_cons (ev_ix (vd (i := 5) rfl rfl) ev_int rfl rfl) eva_nil))) (.cons (.cons (.cons .nil)))) ⟨rfl, Ev.then (ev_ix (vd (i := 5) rfl rfl) ev_int rfl rfl) ⟨rfl, ?_⟩⟩))
    refine ss_cons (s_ifF (EvT.is (et_isntB (x := true) (ev_call0 (w := .d (.bl true)) h_near_holds (hr.mono (by decide)) rfl (eva_cons (vd (i := 1) rfl rfl) (eva_cons (vd (i := 2) rfl rfl) (eva_cons (vd (i := 3) rfl rfl) (eva_cons (vd (i := 4) rfl rfl) (eva_cons (vd (i := 7) rfl rfl) (eva_cons (vd (i := 6) rfl rfl) eva_nil)))))) ⟨s, b, p, q, m, x, dNear tabs ns, rfl, ok, hp, hq, hpq, hm, by omega, .inl ⟨tabs, ns, rows, x, rfl, htl, T, wy, rfl, (fun z => nomatch z), by rw [decide_eq_true (Int.le_refl x)]⟩⟩) ev_bl) rfl) (ss_nil ?_))
    refine ss_one (s_ifF (EvT.is (et_isntB (x := false) (ec_callK k_near_holds (hr.mono (by decide)) rfl (ek_cons (Ev.then (vd (i := 6) rfl rfl) (ek_cons (Ev.then (ev_sub (vd (i := 7) rfl rfl) ev_int) (ek_cons (Ev.then (vd (i := 4) rfl rfl) (ek_cons (Ev.then (vd (i := 3) rfl rfl) (ek_cons (Ev.then (vd (i := 2) rfl rfl) (ek_cons (Ev.then (vd (i := 1) rfl rfl) (ek_nil ⟨rfl, rfl, s, b, p, q, m, x - 1, dNear tabs ns, rfl, ok, hp, hq, hpq, hm, by omega, .inl ⟨tabs, ns, rows, x, rfl, htl, T, wy, rfl, (fun z => nomatch z), by rw [decide_eq_false (by omega : ¬ x ≤ x - 1)]⟩⟩)))))))))))))) ev_bl) rfl) (ss_nil (rest _ _ _)))
end
end Md
end P15Part
section P16Part
set_option Elab.async false
set_option linter.all false
set_option maxRecDepth 100000
set_option maxHeartbeats 4000000
set_option pp.maxSteps 400
/-! the deck of the script; the law -/
namespace Md
open PySem L2
def spDeck (K : PySem.W.Frag) : Sp := fun vs H Q _ => ∃ (a : Addr) (ns : List Int), vs = [.ref a] ∧ SqL K H a (ns.map V.int) ∧
  ∀ (H' : Hp) (d c : Addr) (m : Int) (ns' : List Int), H' d = some (.dK (dkv c m 0)) → H' c = some (.lst (ns'.map V.int)) → ns'.length ≤ 63 → d ≠ c → Q (.ref d) H'
def spLawTop (K : PySem.W.Frag) : Sp := fun vs H Q _ => ∃ (a : Addr) (ns : List Int), vs = [.ref a] ∧ SqL K H a (ns.map V.int) ∧ ns.length ≤ 63 ∧ ∀ H', Q (.bl true) H'
/-- the script: tracked, or an object of the module -/
def scrFr (b : Prop) (a : Addr) (xs : List V) : Fr where
  d := a
  M := fun x => b ∧ x = a
  I := fun H => b → Rd H a (.lst xs)
  tr := fun H x h m => by
    obtain ⟨hb, rfl⟩ := m
    rcases h hb with e | ⟨o, e⟩
    · exact ⟨_, e⟩
    · exact ⟨_, e⟩
  mono := fun H H' k h hb => by
    rcases h hb with e | ⟨o, e⟩
    · exact .inl (k a _ ⟨hb, rfl⟩ e)
    · exact .inr ⟨o, k a _ ⟨hb, rfl⟩ e⟩
theorem scr_at {b : Prop} {a : Addr} {xs : List V} {H0 H : Hp} {σ : L2.St} {ρ : Env1} {i : Nat} (k : Kn (scrFr b a xs) H0 H σ ρ) (hw : ρ[i]? = some (some .deck)) : σ[i]? = some (some (.ref a)) := by
  obtain ⟨v, h1, h2⟩ := k.get i _ hw
  have : v = .ref a := h2
  rw [h1, this]
theorem scr_split {K : PySem.W.Frag} {H : Hp} {a : Addr} {xs : List V} (h : SqL K H a xs) : ∃ b : Prop, (b → Rd H a (.lst xs)) ∧ ∀ H', (b → Rd H' a (.lst xs)) → SqL K H' a xs := by
  rcases h with h | h
  · exact ⟨True, fun _ => h, fun H' z => .inl (z trivial)⟩
  · exact ⟨False, fun z => z.elim, fun H' _ => .inr h⟩
theorem ec_sliceScr {b : Prop} {a : Addr} {ns : List Int} {X : Cx} {ρ : Env1} {i : Nat} {x : Str} {hi : Expr} {Φ : W → Prop} {p1 p2 pos : Pos} (hq : ∀ H', (b → Rd H' a (.lst (ns.map V.int))) → SqL X.K H' a (ns.map V.int)) (hi' : X.N[i]? = some x) (hw : ρ[i]? = some (some .deck))
    (h : EC (scrFr b a (ns.map V.int)) X hi ρ fun wb => ∃ k : Int, wb = .d (.int k) ∧ Φ (.lst true ((ns.map Dat.int).take (HT.sIx ns.length ns.length (some k)))))
    (hv : Vis X.env.scope x := by first | exact .inl rfl | exact .inr (.inl rfl) | exact .inr (.inr rfl)) (hd : (x == ("__debug__" : Str)) = false := by decide) (hcd : (x == ("__classdict__" : Str)) = false := by decide) :
    EC (scrFr b a (ns.map V.int)) X (.Subscript (.Name x p1) (.Slice none (some hi) none p2) pos) ρ Φ := fun H0 H σ k Q q =>
  PE.c (pe_slice sl_list (pe_var hi' hv hd hcd) po_none (po_some (cE.pe X hi))) ⟨_, scr_at k hw, h.run k fun vb H2 wb e2 k2 r2 ⟨n, ew2, p2⟩ => by
    subst ew2; cases r2
    refine ⟨n, rfl, a, ns.map V.int, rfl, hq H2 k2.inv, fun pp hp => ?_⟩
    have e : cutV (ns.map V.int) none (some n) = (ns.map V.int).take (HT.sIx ns.length ns.length (some n)) := by
      unfold cutV
      rw [List.length_map]
      simp [HT.sIx_none]
    rw [e]
    exact q _ _ _ (e2.trans (Ext.new hp)) (inv_new k2.inv hp) ((repL_new k2.inv hp ((reps_ints H2 ns).take _)).back e2) p2⟩
theorem kn_scr {b : Prop} {a : Addr} {H : Hp} {xs : List V} (h : b → Rd H a (.lst xs)) : Kn (scrFr b a xs) H H (L2.start N_law_deck [V.ref a]) [some .deck, none, none] := by
  have pick : ∀ (j : Nat) (w : W), ([some .deck, none, none] : Env1)[j]? = some (some w) → j = 0 ∧ w = .deck := fun j w h => by
    match j, h with
    | 0, h => cases h; exact ⟨rfl, rfl⟩
    | 1, h => cases h
    | 2, h => cases h
    | n + 3, h => cases h
  refine ⟨.refl _ H, h, rfl, fun i w h => ?_, fun i j w w' x ne h1 h2 => ?_⟩
  · obtain ⟨rfl, rfl⟩ := pick i w h
    exact ⟨_, rfl, rfl⟩
  · obtain ⟨rfl, _⟩ := pick i w h1
    obtain ⟨rfl, _⟩ := pick j w' h2
    exact absurd rfl ne
theorem s1_then {F : Fr} {X : Cx} {st : Stmt} {ss : List Stmt} {ρ : Env1} {N : Env1 → Prop} {H0 H : Hp} {σ : L2.St} {D' : Ends} (h : S1 F X st ρ { nx := N, rt := fun _ => False }) (k : Kn F H0 H σ ρ) (g : ∀ σ' H' ρ', Kn F H0 H' σ' ρ' → N ρ' → cS X ss D' σ' H') : cS X (st :: ss) D' σ H :=
  PSs.c (pss_cons (cS1.ps X st) (cS.ps X ss)) (h H0 H σ { D' with nx := fun σ' H' => cS X ss D' σ' H' } k ⟨fun σ' H' ρ' kn kp d => g σ' H' ρ' kn d, fun σ' H' ρ' kn kp d => d.elim, fun σ' H' ρ' kn kp d => d.elim, fun v H' w e i r d => d.elim⟩)
theorem merge_deck (c : Addr) (m : Int) : mergeK [] (dkv c m 0) = dkv c m 0 := by
  have n1 : valV ([] : List (Key × V)) kCells = none := rfl
  have e1 := putK_new (V.ref c) n1
  have n2 : valV ([] ++ [(kCells, V.ref c)]) kMixed = none := valV_neg ne_cm
  have e2 := putK_new (V.int m) n2
  have n3 : valV (([] ++ [(kCells, V.ref c)]) ++ [(kMixed, V.int m)]) kTurn = none := (valV_neg ne_ct).trans (valV_neg ne_mt)
  have e3 := putK_new (V.int 0) n3
  show putK (putK (putK [] kCells (.ref c)) kMixed (.int m)) kTurn (.int 0) = _
  rw [e1, e2, e3]
  rfl
theorem SS.run {F : Fr} {X : Cx} {ss : List Stmt} {ρ : Env1} {D : DE} {H0 H : Hp} {σ : L2.St} {D' : Ends} (h : SS F X ss ρ D) (k : Kn F H0 H σ ρ) (l : Lift F H0 H σ ρ D D') : cS X ss D' σ H := h H0 H σ D' k l
section
variable {P : Program} {w : World} {K : PySem.W.Frag} {mg : Str → Option Value} {base : Heap} {f : Addr} {fd : FuncData}
theorem ok_law_deck (F : Fun K "_law_deck" "_law_deck" s_law_deck f fd) (B : Bt mg) : FnOk P w K mg base CX0 1 f fd ["_law_script"] (spDeck K) := by
  refine F.ok sc_law_deck (fun vs H Q E ⟨a, ns, h, _⟩ => by rw [h]; rfl) (fun cdv A outer s H vs Q E hr h => ?_)
  obtain ⟨a, ns, rfl, hH, q⟩ := h
  obtain ⟨b, hb, hq⟩ := scr_split hH
  refine ⟨_, cS.ps _ _, ?_⟩
  have k0 := kn_scr (b := b) hb
  have tk : ∀ (j : Int), HT.sIx ns.length ns.length (some 63) = min 63 ns.length := fun _ => by rw [show (63 : Int) = ((63 : Nat) : Int) from rfl, HT.sIx_nat]
  have hcut : (ns.map Dat.int).take (HT.sIx ns.length ns.length (some 63)) = (ns.take 63).map Dat.int := by
    rw [tk 0, ← List.map_take]
    congr 1
    by_cases h : 63 ≤ ns.length
    · rw [Nat.min_eq_left h]
    · rw [Nat.min_eq_right (by omega), List.take_of_length_le (Nat.le_refl _), List.take_of_length_le (by omega)]
  have hcl : (ns.take 63).length ≤ 63 := by rw [List.length_take]; omega
  refine s1_then (N := fun ρ' => ρ' = [some .deck, some (.d (.int 10893067)), none]) (s_set (i := 1) (sc_law_deck).nd rfl (.inl rfl) (Ev.then ev_int ⟨rfl, rfl⟩)) k0 fun σ1 H1 ρ1 k1 e1 => ?_
  subst e1
  refine s1_then (N := fun ρ' => ∃ (m : Int) (c : Option Md.W), ρ' = [some .deck, some (.d (.int m)), c]) (s_for pat_name rfl (pg_name (i := 2) (sc_law_deck).nd rfl (.inl rfl)) PassesOwn.never (ei_new (ec_sliceScr hq (i := 0) rfl rfl (Ev.then ev_int ⟨63, rfl, _, rfl,
    fun i ρ' => ∃ (m : Int) (c : Option Md.W), ρ' = [some .deck, some (.d (.int m)), c], ⟨_, _, rfl⟩, ?_, fun ρ' h => h⟩)))) k1 fun σ2 H2 ρ2 k2 ⟨m, c2, e2⟩ => ?_
  · rintro i d ρ' hd ⟨m, c, rfl⟩
    rw [hcut, List.getElem?_map] at hd
    obtain ⟨z, hz, rfl⟩ : ∃ z, (ns.take 63)[i]? = some z ∧ d = .int z := by
      cases h : (ns.take 63)[i]? with
      | none => rw [h] at hd; cases hd
      | some z => rw [h] at hd; exact ⟨z, rfl, (Option.some.inj hd).symm⟩
    exact ⟨_, rfl, ss_one (s_set (i := 1) (sc_law_deck).nd rfl (.inl rfl) (Ev.then (ev_modc (ev_intc rfl B.int (ev_add (ev_add (ev_mulc (vd (i := 1) rfl rfl) ev_int (.inr ⟨by decide, by decide⟩)) (ev_modc (ev_intc rfl B.int (vd (i := 2) rfl rfl)) ev_int (by decide))) ev_int)) ev_int (by decide)) ⟨rfl, _, _, rfl⟩))⟩
  · subst e2
    refine PSs.c (pss_one (ps_ret (pe_disp (pps_cons pe_str (cE.pe _ _) (pps_cons pe_str (cE.pe _ _) (pps_cons pe_str pe_int pps_nil))) rfl rfl (by simp) (by decide)))) ?_
    intro pp hp
    have e0 : Ext (scrFr b a (ns.map V.int)) H2 (upd H2 pp (.dK [])) := Ext.new hp
    have k3 := k2.step e0 (inv_new k2.inv hp)
    -- the cells
    refine EC.run (F := scrFr b a (ns.map V.int)) (Φ := fun w => ∃ ns' : List Int, w = .lst true (ns'.map Dat.int) ∧ ns'.length ≤ 63) ?cells k3 fun v1 H3 w1 e3 k4 r1 ⟨ns', ew, hl⟩ => ?_
    case cells =>
      refine ec_rev (ec_lc (own := [("_law_cell", 2)]) (ns.take 63) Dat.int (fun z r => r = some (.int z)) pat_name rfl (sc_law_deck).nd (blkOk_by (N := N_law_deck) (sc := defScope s_law_deck) (by decide +kernel)) (by simp) (by omega) (fun s H C cl fp => pg_name (i := 2) (sc_law_deck).nd rfl (.inl rfl))
        (ei_new (ec_sliceScr hq (i := 0) rfl rfl (Ev.then ev_int ⟨63, rfl, _, rfl, hcut⟩))) (fun z hz => ⟨_, rfl, fun s H C cl fp => ets_nil ⟨fun _ s H C cl fp => Ev.then (ev_intc rfl B.int (vd (i := 2) rfl rfl)) ⟨_, rfl, rfl⟩, fun e => nomatch e⟩⟩) fun out ho => ⟨_, _, rfl, (ns.take 63).reverse, by rw [outs_map (f := fun z => Dat.int z) ho, List.map_reverse], by rw [List.length_reverse]; exact hcl⟩)
    subst ew
    refine EC.run (F := scrFr b a (ns.map V.int)) (Φ := fun u => u = .d (.int m)) ?mix k4 fun v2 H4 w2 e4 k5 r2 ew2 => ?_
    case mix => exact vd (i := 1) rfl rfl
    subst ew2
    cases r2
    obtain ⟨c, us, rfl, c2', c3', c4', c5'⟩ := r1
    cases c3'.ints
    have hpp : H4 pp = some (.dK []) := (e3.trans e4).keep pp _ (Fr.fresh k2.inv hp) upd_same
    have hcp : c ≠ pp := fun z => by
      have := c5' rfl
      rw [z, upd_same] at this; cases this
    have hc4 : H4 c = some (.lst (ns'.map V.int)) := e4.keep c _ c4' c2'
    refine ⟨hpp, dkv c m 0, rfl, by show 3 ≤ 15; decide, ?_⟩
    rw [merge_deck]
    exact q _ pp c m ns' upd_same (by rw [upd_ne hcp]; exact hc4) hl (Ne.symm hcp)
theorem kn_deck {d c : Addr} {H : Hp} {m : Int} {ns : List Int} {N : List Str} {a : V} (h1 : H d = some (.dK (dkv c m 0))) (h2 : H c = some (.lst (ns.map V.int))) (hl : ns.length ≤ 63) (hdc : d ≠ c) (hN : N.length = 12) :
    Kn (deckFr d c fun n => n ≤ 63) H H ((L2.start N [a]).set 1 (some (.ref d))) [none, some .deck, none, none, none, none, none, none, none, none, none, none] := by
  have hlen : (L2.start N [a]).length = 12 := by unfold L2.start; simp [hN]
  have pick : ∀ (j : Nat) (w : W), ([none, some .deck, none, none, none, none, none, none, none, none, none, none] : Env1)[j]? = some (some w) → j = 1 ∧ w = .deck := fun j w h => by
    match j, h with
    | 0, h => cases h
    | 1, h => cases h; exact ⟨rfl, rfl⟩
    | 2, h => cases h
    | 3, h => cases h
    | 4, h => cases h
    | 5, h => cases h
    | 6, h => cases h
    | 7, h => cases h
    | 8, h => cases h
    | 9, h => cases h
    | 10, h => cases h
    | 11, h => cases h
    | j + 12, h => simp at h
  refine ⟨.refl _ H, ⟨hdc, m, 0, ns, h1, h2, hl⟩, by rw [List.length_set, hlen]; rfl, fun j w h => ?_, fun i j w w' a ne h1 h2 ho => ?_⟩
  · obtain ⟨rfl, rfl⟩ := pick j w h
    exact ⟨.ref d, by rw [List.getElem?_set_self (by rw [hlen]; decide)], rfl⟩
  · obtain ⟨_, rfl⟩ := pick i w h1
    cases ho
theorem repr_far {s : Web} {b : List Web} (ok : GardenOk s b) {m p q : Nat} (hm : m ≤ 60) (hp : p < s.n) : ReprOk (dOpt (far s b m p q)) := by
  cases e : far s b m p q with
  | none => trivial
  | some y =>
    obtain ⟨h0, h1⟩ := far_bound ok hp e
    show y.natAbs.log2 < 1920
    have h7 : (7 : Int) ^ m ≤ 7 ^ 60 := by
      have := Nat.pow_le_pow_right (n := 7) (by decide) hm
      have e2 : ((7 : Int) ^ m) = ((7 ^ m : Nat) : Int) := by rw [Int.natCast_pow]; rfl
      have e3 : ((7 : Int) ^ 60) = ((7 ^ 60 : Nat) : Int) := by rw [Int.natCast_pow]; rfl
      rw [e2, e3]
      exact Int.ofNat_le.mpr this
    have hb : y.natAbs < 2 ^ 1920 := by
      have h8 : (7 : Int) * 7 ^ 60 < 2 ^ 200 := by decide +kernel
      have h9 : y < 2 ^ 200 := by omega
      have h10 : (2 : Nat) ^ 200 ≤ 2 ^ 1920 := Nat.pow_le_pow_right (by decide) (by decide)
      have e4 : ((2 : Int) ^ 200) = ((2 ^ 200 : Nat) : Int) := by rw [Int.natCast_pow]; rfl
      rw [e4] at h9
      have : y.natAbs < 2 ^ 200 := by omega
      exact Nat.lt_of_lt_of_le this h10
    by_cases hz : y.natAbs = 0
    · rw [hz]; decide
    · exact (Nat.log2_lt hz).mpr hb
noncomputable abbrev LwE (s : Web) (b : List Web) (p q m : Nat) (c2 c3 : Option Md.W) (so : List Dat) (c10 : Option Md.W) : Env1 := [none, some .deck, c2, c3, some (.d (dGarden s b)), some (.d (dN p)), some (.d (dN m)), some (.d (dN q)), some (.d (dOpt (far s b m p q))), some (.lst true so), c10, none]
theorem ok_law (F : Fun K "law" "law" s_law f fd) (B : Bt mg) (d_law_deck : ∃ f fd ps, FnOk P w K mg base CX0 1 f fd ps (spDeck K) ∧ mg "_law_deck" = some (.ref f) ∧ PySem.W.keepIn K (.ref f) = true ∧ Binds K fd ps []) (h_law_draw : HasFn P w K mg base "_law_draw" 1 (spD DK sp_law_draw)) (h_law_pick : HasFn P w K mg base "_law_pick" 2 (spD DK sp_law_pick)) (h_law_start : HasFn P w K mg base "_law_start" 4 (spD DK sp_law_web)) (h_law_growth : HasFn P w K mg base "_law_growth" 4 (spD DK sp_law_web))
    (h_law_distance : HasFn P w K mg base "_law_distance" 2 (spD CP sp_law_distance)) (h_distance_after : HasFn P w K mg base "distance_after" 10 (spD CP sp_distance_after)) (h_law_told : HasFn P w K mg base "_law_is_told_right" 13 (spD DK sp_law_told)) (h_law_own : HasFn P w K mg base "_law_are_own_right" 13 (spD DK sp_law_own)) :
    FnOk P w K mg base CX0 14 f fd ["_law_script"] (spLawTop K) := by
  refine F.ok sc_law (fun vs H Q E ⟨a, ns, h, _⟩ => by rw [h]; rfl) (fun cdv A outer s0 H vs Q E hr h => ?_)
  obtain ⟨a, ns, rfl, hsq, hns, q⟩ := h
  refine ⟨_, cS.ps _ _, ?_⟩
  obtain ⟨fD, fdD, psD, GD, hmD, hkD, hbD⟩ := d_law_deck
  refine PSs.c (pss_cons (ps_set (i := 1) (sc_law).nd rfl (.inr rfl) (cE.pe _ _) rfl (.inl rfl)) (cS.ps _ _)) ?_
  show cE _ _ _ _ _
  refine PE.c (pe_call (X := bx P w K mg base N_law "law" s_law f cdv A outer s0 H E) (x := "_law_deck") GD (hr.mono (by decide)) rfl hmD hkD hbD .nil pass0 (pa_cons (pe_var (i := 0) rfl (.inl rfl)) pa_nil)) ?_
  refine ⟨.ref a, rfl, ?_⟩
  refine ⟨a, ns, rfl, hsq, fun H' d c m ns' e1 e2 e3 e4 => ?_⟩
  have kd := kn_deck (a := V.ref a) (N := N_law) e1 e2 e3 e4 rfl
  have hC : DK (deckFr d c fun n => n ≤ 63) := ⟨d, c, rfl⟩
  refine SS.run (D := { nx := fun _ => False, rt := fun w => w = .d (.bl true) }) ?body kd ⟨fun _ _ _ _ _ z => z.elim, fun _ _ _ _ _ z => z.elim, fun _ _ _ _ _ z => z.elim, fun v H2 w e i r ew => ?fin⟩
  case fin =>
    subst ew
    cases r
    exact q H2
  case body =>
    refine ss_cons (s_for pat_name rfl (pg_name (i := 2) (sc_law).nd rfl (.inl rfl)) PassesOwn.never (ei_range1 rfl B.range (Ev.then ev_int ⟨2, rfl, by decide, by decide,
      fun i ρ' => ∃ c2 c3 c4 c5 c6 c7 c8 c9 c10, ρ' = [none, some .deck, c2, c3, c4, c5, c6, c7, c8, c9, c10, none], ⟨_, _, _, _, _, _, _, _, _, rfl⟩, ?_, ?_⟩)))
    · rintro i dd ρ' hd ⟨c2, c3, c4, c5, c6, c7, c8, c9, c10, rfl⟩
      refine ⟨_, rfl, ?_⟩
      -- kinds
      refine ss_cons (s_set (i := 3) (sc_law).nd rfl (.inr rfl) (ec_callD hC h_law_pick (hr.mono (by decide)) rfl (EvA.then (eva_cons (vk (i := 1) rfl rfl) (eva_cons (ev_lst (eva_cons ev_int (eva_cons ev_int (eva_cons ev_int (eva_cons ev_int eva_nil)))) (.cons (.cons (.cons (.cons .nil))))) eva_nil)) ⟨_, rfl, by simp, by simp, fun dk hdk => ⟨rfl, ?_⟩⟩)))
      obtain ⟨k, rfl, hk, hk3⟩ : ∃ k : Nat, dk = dN k ∧ 0 < k ∧ k ≤ 3 := by
        simp only [List.mem_cons, List.not_mem_nil, or_false] at hdk
        rcases hdk with rfl | rfl | rfl | rfl
        · exact ⟨2, rfl, by decide, by decide⟩
        · exact ⟨1, rfl, by decide, by decide⟩
        · exact ⟨3, rfl, by decide, by decide⟩
        · exact ⟨2, rfl, by decide, by decide⟩
      -- the garden
      refine ss_cons (s_set (i := 4) (sc_law).nd rfl (.inl rfl) (ec_tup (ea_cons (ec_callD hC h_law_start (hr.mono (by decide)) rfl (EvA.then (eva_cons (vk (i := 1) rfl rfl) (eva_cons (vd (i := 3) rfl rfl) eva_nil)) ⟨k, rfl, hk, hk3, fun s sok s2 => ea_cons (ec_tuple rfl B.tuple ?_)⟩)))))
      refine ec_lc (own := [("_law_c", 11)]) (List.range k) (fun i : Nat => Dat.int (0 + (i : Int))) (fun _ r => ∃ W : Web, r = some (dWeb W) ∧ (W.Ok k ∧ 2 ≤ W.n)) pat_name rfl (sc_law).nd (blkOk_by (N := N_law) (sc := defScope s_law) (by decide +kernel)) (by simp) (by simp; omega) (fun s H C cl fp => pg_name (i := 11) (sc_law).nd rfl (.inl rfl))
        (ei_range1 rfl B.range (Ev.then (vd (i := 3) rfl rfl) ⟨(k : Int), rfl, by omega, by omega, by simp [rangeD]⟩)) (fun j hj => ⟨_, rfl, fun s H C cl fp => ets_nil ⟨fun _ s H C cl fp => ?_, fun e => nomatch e⟩⟩) fun out ho => ?_
      · exact ec_callD hC h_law_growth (hr.mono (by decide)) rfl (EvA.then (eva_cons (vk (i := 1) rfl rfl) (eva_cons (vd (i := 3) rfl rfl) eva_nil)) ⟨k, rfl, hk, hk3, fun W w1 w2 => ⟨_, rfl, W, rfl, w1, w2⟩⟩)
      obtain ⟨b, eb, bl, bg⟩ := outs_ex ho
      subst eb
      rw [List.length_range] at bl
      have ok : GardenOk s b := by
        refine ⟨by rw [bl]; exact sok, by omega, by omega, fun g hg => ?_⟩
        obtain ⟨j, hj⟩ := List.getElem?_of_mem hg
        have hjl : j < k := by have := (List.getElem?_eq_some_iff.mp hj).1; omega
        rw [bl]
        exact bg j j g (List.getElem?_range hjl) hj
      have sn7 := sok.small
      refine ⟨_, rfl, ea_nil ⟨_, .cons (.cons .nil), by simp, rfl, ?_⟩⟩
      -- p and n
      refine ss_cons (s_par2 (i := 5) (j := 6) rfl (sc_law).nd rfl rfl (by decide) rfl rfl (ec_callD hC h_law_draw (hr.mono (by decide)) rfl (EvA.then (eva_cons (vk (i := 1) rfl rfl) (eva_cons (ev_ix (ev_ix (vd (i := 4) rfl rfl) ev_int rfl rfl) ev_int rfl rfl) eva_nil)) ⟨(s.n : Int), rfl, by omega, by omega, fun p0 h0 h1 => ⟨rfl,
        ec_callD hC h_law_pick (hr.mono (by decide)) rfl (EvA.then (eva_cons (vk (i := 1) rfl rfl) (eva_cons (ev_lst (eva_cons ev_int (eva_cons ev_int (eva_cons ev_int (eva_cons ev_int (eva_cons ev_int (eva_cons ev_int (eva_cons ev_int (eva_cons ev_int (eva_cons ev_int (eva_cons ev_int eva_nil)))))))))) (.cons (.cons (.cons (.cons (.cons (.cons (.cons (.cons (.cons (.cons .nil))))))))))) eva_nil)) ⟨_, rfl, by simp, by simp, fun dm hdm => ⟨rfl, ?_⟩⟩)⟩⟩)))
      obtain ⟨m, rfl, hm⟩ : ∃ m : Nat, dm = dN m ∧ m ≤ 60 := by
        simp only [List.mem_cons, List.not_mem_nil, or_false] at hdm
        rcases hdm with rfl | rfl | rfl | rfl | rfl | rfl | rfl | rfl | rfl | rfl
        · exact ⟨2, rfl, by decide⟩
        · exact ⟨1, rfl, by decide⟩
        · exact ⟨3, rfl, by decide⟩
        · exact ⟨0, rfl, by decide⟩
        · exact ⟨4, rfl, by decide⟩
        · exact ⟨2, rfl, by decide⟩
        · exact ⟨9, rfl, by decide⟩
        · exact ⟨1, rfl, by decide⟩
        · exact ⟨30, rfl, by decide⟩
        · exact ⟨60, rfl, by decide⟩
      obtain ⟨p, rfl⟩ := Int.eq_ofNat_of_zero_le h0
      have hp : p < s.n := by omega
      -- q
      refine ss_cons (s_set (i := 7) (sc_law).nd rfl (.inl rfl) (ec_mod (ec_int rfl B.int (ec_add (Ev.then (ev_add (vd (i := 5) rfl rfl) ev_int) ⟨_, rfl, ec_callD hC h_law_draw (hr.mono (by decide)) rfl (EvA.then (eva_cons (vk (i := 1) rfl rfl) (eva_cons (ev_sub (ev_ix (ev_ix (vd (i := 4) rfl rfl) ev_int rfl rfl) ev_int rfl rfl) ev_int) eva_nil)) ⟨_, rfl, by omega, by omega, fun u h2 h3 => ⟨u, rfl, _, rfl, _, rfl, Ev.then (ev_ix (ev_ix (vd (i := 4) rfl rfl) ev_int rfl rfl) ev_int rfl rfl) ⟨(s.n : Int), rfl, by omega, rfl, ?_⟩⟩⟩)⟩)))))
      obtain ⟨q', eq, hq, hpq⟩ := next_ne (a := p) s2 hp h2 h3
      rw [eq]
      -- the distance
      refine ss_cons (s_set (i := 8) (sc_law).nd rfl (.inl rfl) (Ev.then (w := .d (dOpt (far s b m p q'))) (ev_call0 h_law_distance (hr.mono (by decide)) rfl (eva_cons (vd (i := 4) rfl rfl) (eva_cons (vd (i := 5) rfl rfl) (eva_cons (vd (i := 7) rfl rfl) (eva_cons (vd (i := 6) rfl rfl) eva_nil)))) ⟨s, b, p, q', m, rfl, ok, hp, hq, by omega, by cases far s b m p q' <;> rfl, (fun z => nomatch z), rfl⟩) ⟨by cases far s b m p q' <;> rfl, ?_⟩))
      have hrep := repr_far (q := q') ok hm hp
      refine ss_cons (s_ifF (EvT.is (et_neS (x := reprS (dOpt (far s b m p q'))) (y := reprS (dOpt (far s b m p q'))) (ec_repr rfl B.repr (Ev.then (w := .d (dOpt (far s b m p q'))) (ev_call0 h_distance_after (hr.mono (by decide)) rfl (eva_cons (vd (i := 4) rfl rfl) (eva_cons (vd (i := 5) rfl rfl) (eva_cons (vd (i := 7) rfl rfl) (eva_cons (vd (i := 6) rfl rfl) eva_nil)))) ⟨s, b, p, q', m, rfl, ok, hp, hq, by omega, by cases far s b m p q' <;> rfl, (fun z => nomatch z), rfl⟩) ⟨_, rfl, hrep, rfl⟩))
        (ec_repr rfl B.repr (Ev.then (vd (i := 8) rfl rfl) ⟨_, rfl, hrep, rfl⟩))) (by simp)) (ss_nil ?_))
      -- what is asked of it
      have rest : ∀ (so : List Dat) (c10 : Option Md.W), so ≠ [] → so.length ≤ 1000 → (∀ d, d ∈ so → ∃ i : Int, d = .int i) → SS (deckFr d c fun n => n ≤ 63) (bx P w K mg base N_law "law" s_law f cdv A outer s0 H E) ((match (defBody s_law).getD 1 (.Pass ⟨0, 0, 0, 0⟩) with | .For _ _ bd _ _ => bd | _ => []).drop 8) (LwE s b p q' m (some (.d dd)) (some (.d (dN k))) so c10)
          { nx := fun ρ' => ∃ c2 c3 c4 c5 c6 c7 c8 c9 c10, ρ' = [none, some .deck, c2, c3, c4, c5, c6, c7, c8, c9, c10, none], ct := fun ρ' => ∃ c2 c3 c4 c5 c6 c7 c8 c9 c10, ρ' = [none, some .deck, c2, c3, c4, c5, c6, c7, c8, c9, c10, none],
            bk := fun ρ' => SS (deckFr d c fun n => n ≤ 63) (bx P w K mg base N_law "law" s_law f cdv A outer s0 H E) ((defBody s_law).drop 2) ρ' { nx := fun _ => False, rt := fun w => w = .d (.bl true) }, rt := fun w => w = .d (.bl true) } := fun so c10 hso hsl hsi => by
        refine ss_cons (s_for pat_name rfl (pg_name (i := 10) (sc_law).nd rfl (.inl rfl)) PassesOwn.never (ei_new (ec_lst (ea_cons (ec_callD hC h_law_pick (hr.mono (by decide)) rfl (EvA.then (eva_cons (vk (i := 1) rfl rfl) (eva_cons (vl (i := 9) rfl rfl) eva_nil)) ⟨so, rfl, hso, hsl, fun d1 hd1 => ea_cons (ec_callD hC h_law_pick (hr.mono (by decide)) rfl (EvA.then (eva_cons (vk (i := 1) rfl rfl) (eva_cons (vl (i := 9) rfl rfl) eva_nil)) ⟨so, rfl, hso, hsl, fun d2 hd2 => ea_nil ⟨_, .cons (.cons .nil), by simp, _, rfl,
          fun i ρ' => ∃ c10, ρ' = LwE s b p q' m (some (.d dd)) (some (.d (dN k))) so c10, ⟨_, rfl⟩, ?_, ?_⟩⟩))⟩))))))
        · rintro j dj ρ' hdj ⟨c10, rfl⟩
          obtain ⟨z, rfl⟩ : ∃ z : Int, dj = .int z := by
            have hm : dj ∈ [d1, d2] := List.mem_of_getElem? hdj
            simp only [List.mem_cons, List.not_mem_nil, or_false] at hm
            rcases hm with rfl | rfl
            · exact hsi _ hd1
            · exact hsi _ hd2
          refine ⟨_, rfl, ss_one (s_if (ET.to (Φ := fun b => b = false) (EW.et (ew_and (EvT.then (et_ge (vd (i := 10) rfl rfl) ev_int) ⟨fun hge => ew_and1 (et_not (et_val (ec_callD hC h_law_told (hr.mono (by decide)) rfl (EvA.then (eva_cons (vk (i := 1) rfl rfl) (eva_cons (vd (i := 4) rfl rfl) (eva_cons (vd (i := 5) rfl rfl) (eva_cons (vd (i := 7) rfl rfl) (eva_cons (vd (i := 6) rfl rfl) (eva_cons (vd (i := 10) rfl rfl) (eva_cons (vd (i := 8) rfl rfl) eva_nil))))))) ⟨s, b, p, q', m, z, rfl, ok, hp, hq, hpq, by omega, of_decide_eq_true hge, true, rfl, rfl⟩)))), fun _ => rfl⟩))) fun bb ebb => ⟨(fun e => by rw [ebb] at e; cases e), fun _ => ss_nil ⟨_, rfl⟩⟩))⟩
        · rintro ρ' ⟨c10, rfl⟩
          refine ss_one (s_if (ET.to (Φ := fun b => b = false) (EW.et (ew_and (EvT.then (et_lt (vd (i := 6) rfl rfl) ev_int) ⟨fun hge => ew_and1 (et_not (et_val (ec_callD hC h_law_own (hr.mono (by decide)) rfl (EvA.then (eva_cons (vk (i := 1) rfl rfl) (eva_cons (vd (i := 4) rfl rfl) (eva_cons (vd (i := 5) rfl rfl) (eva_cons (vd (i := 7) rfl rfl) (eva_cons (vd (i := 6) rfl rfl) eva_nil))))) ⟨s, b, p, q', m, rfl, ok, hp, hq, hpq, by omega, true, rfl, rfl⟩)))), fun _ => rfl⟩))) fun bb ebb => ⟨(fun e => by rw [ebb] at e; cases e), fun _ => ss_nil ⟨_, _, _, _, _, _, _, _, _, rfl⟩⟩))
      refine ss_cons (s_set (i := 9) (sc_law).nd rfl (.inl rfl) (ec_lst (ea_cons (Ev.then ev_int (ea_cons (Ev.then (ev_powc ev_int ev_int ⟨by decide, by decide, by decide⟩) (ea_cons (ec_callD hC h_law_draw (hr.mono (by decide)) rfl (EvA.then (eva_cons (vk (i := 1) rfl rfl) (eva_cons ev_int eva_nil)) ⟨9, rfl, by decide, by decide, fun u9 _ _ => ea_nil ⟨_, .cons (.cons (.cons .nil)), by simp, rfl, ?_⟩⟩)))))))))
      have opt : ∀ o : Option Int, o = none ∨ ∃ l, o = some l := fun o => by cases o with | none => exact .inl rfl | some l => exact .inr ⟨l, rfl⟩
      refine ss_cons (s_if (EvT.then (et_notN (vd (i := 8) rfl rfl)) ⟨fun hb => ?_, fun hb => ss_nil (rest _ _ (by simp) (by simp) fun d hd => ?_)⟩))
      · obtain ⟨y, hy⟩ : ∃ y, far s b m p q' = some y := by
          cases e : far s b m p q' with
          | none => rw [e] at hb; cases hb
          | some y => exact ⟨y, rfl⟩
        have v8 : ∀ (so : List Dat) (c10 : Option Md.W) {pos : Pos}, Ev (deckFr d c fun n => n ≤ 63) (bx P w K mg base N_law "law" s_law f cdv A outer s0 H E) (.Name "_law_distance_here" pos) (LwE s b p q' m (some (.d dd)) (some (.d (dN k))) so c10) (.d (.int y)) := fun so c10 {pos} => Ev.is (vd (i := 8) (y := dOpt (far s b m p q')) rfl rfl) (by rw [hy]; rfl)
        refine ss_one (s_set (i := 9) (sc_law).nd rfl (.inl rfl) (ec_lst (ea_cons (Ev.then (ev_sub (v8 _ _) ev_int) (ea_cons (Ev.then (v8 _ _) (ea_cons (Ev.then (ev_add (v8 _ _) ev_int) (ea_cons (ec_callD hC h_law_draw (hr.mono (by decide)) rfl (EvA.then (eva_cons (vk (i := 1) rfl rfl) (eva_cons ev_int eva_nil)) ⟨40, rfl, by decide, by decide, fun u40 _ _ => ea_cons (Ev.then (ev_sub (v8 _ _) ev_int) (ea_cons (Ev.then (v8 _ _) (ea_nil ⟨_, .cons (.cons (.cons (.cons (.cons (.cons .nil))))), by simp, rfl, rest _ _ (by simp) (by simp) fun d hd => ?_⟩))))⟩)))))))))))
        simp only [List.mem_cons, List.not_mem_nil, or_false] at hd
        rcases hd with rfl | rfl | rfl | rfl | rfl | rfl <;> exact ⟨_, rfl⟩
      · simp only [List.mem_cons, List.not_mem_nil, or_false] at hd
        rcases hd with rfl | rfl | rfl <;> exact ⟨_, rfl⟩
    · rintro ρ' ⟨c2, c3, c4, c5, c6, c7, c8, c9, c10, rfl⟩
      exact ss_one (s_ret (Ev.then ev_bl rfl))
end
end Md
end P16Part
section EndPart
set_option Elab.async false
set_option linter.all false
set_option maxRecDepth 100000
set_option maxHeartbeats 4000000
/-! the end: what the top has made, and the statement -/
namespace Md
open PySem L2
def DefIn (K : PySem.W.Frag) (x : Str) (st : Stmt) : Prop := ∃ (f : Addr) (od an : Option Addr) (sl : Array (Option Value)) (oc kV dc pm cd ct : Value), PySem.W.nsIn K mainGlobals x = some (some (.ref f)) ∧
  K.lookup f = some ⟨oc, od, .func (PySem.W.fnOf x x (defArgs st) (defBody st) (defScope st) .none kV dc pm an cd ct), sl⟩ ∧ PySem.W.codeIn K cd x = true ∧ PySem.W.keepIn K (.ref f) = true
theorem defIn_mk {K : PySem.W.Frag} {x : Str} {st : Stmt} {f : Addr} {od an : Option Addr} {sl : Array (Option Value)} {oc kV dc pm cd ct : Value} (a : PySem.W.nsIn K mainGlobals x = some (some (.ref f)))
    (l : K.lookup f = some ⟨oc, od, .func (PySem.W.fnOf x x (defArgs st) (defBody st) (defScope st) .none kV dc pm an cd ct), sl⟩) (c : PySem.W.codeIn K cd x = true) (k : PySem.W.keepIn K (.ref f) = true) : DefIn K x st := ⟨f, od, an, sl, oc, kV, dc, pm, cd, ct, a, l, c, k⟩
theorem DefIn.get {K : PySem.W.Frag} {x : Str} {st : Stmt} {h : Heap} {mg : Str → Option Value} (d : DefIn K x st) (X : K.In h) (G : h.Ns mainGlobals mg) : ∃ f fd, Fun K x x st f fd ∧ mg x = some (.ref f) := by
  obtain ⟨f, od, an, sl, oc, kV, dc, pm, cd, ct, a, l, c, k⟩ := d
  exact ⟨f, _, fun_mk l c k, PySem.W.mg_of X G a⟩
theorem vals_rev {vs : List V} {us : List Value} (r : Vals vs us) : Vals vs.reverse us.reverse := by
  induction r with
  | nil => exact .nil
  | cons h t ih => rw [List.reverse_cons, List.reverse_cons]; exact ih.append (.cons h .nil)
theorem HasFnK.mk {P : Program} {w : World} {K : PySem.W.Frag} {mg : Str → Option Value} {base : Heap} {x qual : Str} {st : Stmt} {f : Addr} {fd : FuncData} {ps ks : List Str} {k : Nat} {sp : Sp} (G : FnOk P w K mg base CX0 k f fd ps sp) (F : Fun K x qual st f fd) (hm : mg x = some (.ref f))
    (h : ∀ (kV doc pm : Value) (an : Option Addr) (cdv ct : Value) (ws : List Value), ws.length = ks.length → bindArgs (PySem.W.fnOf x qual (defArgs st) (defBody st) (defScope st) .none kV doc pm an cdv ct) ⟨[], ks.zip ws⟩ = pure (ps.zip ws.reverse)) : HasFnK P w K mg base x k ks sp := by
  refine ⟨f, fd, ps, G, hm, F.kp, ⟨fun s us ws _ h0 hl => ?_, fun _ r => vals_rev r⟩⟩
  obtain ⟨oc, od, kV, doc, pm, an, cdv, ct, osl, rfl, lk, hcd⟩ := F.ex
  have : us = [] := List.length_eq_zero_iff.mp h0
  subst this
  exact .of_eq (h kV doc pm an cdv ct ws hl)
theorem all_mk {l : PySem.W.OpenLaw} {w : World} {K : PySem.W.Frag} {h : Heap} {mg : Str → Option Value} {fa : Addr} (X : K.In h) (G : h.Ns mainGlobals mg) (hfa : mg "law" = some (.ref fa))
    (d_is_integer : DefIn K "is_integer" s_is_integer)
    (d_is_between : DefIn K "is_between" s_is_between)
    (d_is_place : DefIn K "is_place" s_is_place)
    (d_is_tie : DefIn K "is_tie" s_is_tie)
    (d_has_kinds_below : DefIn K "has_kinds_below" s_has_kinds_below)
    (d_is_web_value : DefIn K "is_web_value" s_is_web_value)
    (d_is_growth_value : DefIn K "is_growth_value" s_is_growth_value)
    (d_is_book_value : DefIn K "is_book_value" s_is_book_value)
    (d_is_garden_value : DefIn K "is_garden_value" s_is_garden_value)
    (d_need_garden : DefIn K "need_garden" s_need_garden)
    (d_need_from : DefIn K "need_from" s_need_from)
    (d_tied_lengths : DefIn K "tied_lengths" s_tied_lengths)
    (d_spread_sums : DefIn K "spread_sums" s_spread_sums)
    (d_sums_from : DefIn K "sums_from" s_sums_from)
    (d_end_rows : DefIn K "end_rows" s_end_rows)
    (d_need_places : DefIn K "need_places" s_need_places)
    (d_need_unlike : DefIn K "need_unlike" s_need_unlike)
    (d_need_question : DefIn K "need_question" s_need_question)
    (d_distance_after : DefIn K "distance_after" s_distance_after)
    (d_way_by : DefIn K "way_by" s_way_by)
    (d_heights_by : DefIn K "heights_by" s_heights_by)
    (d_near_paper : DefIn K "near_paper" s_near_paper)
    (d_over_paper : DefIn K "over_paper" s_over_paper)
    (d_judge_near : DefIn K "judge_near" s_judge_near)
    (d_way_size : DefIn K "way_size" s_way_size)
    (d_are_tables : DefIn K "are_tables" s_are_tables)
    (d_is_near : DefIn K "is_near" s_is_near)
    (d_are_heights : DefIn K "are_heights" s_are_heights)
    (d_is_over : DefIn K "is_over" s_is_over)
    (d_near_holds : DefIn K "near_holds" s_near_holds)
    (d__law_draw : DefIn K "_law_draw" s_law_draw)
    (d__law_pick : DefIn K "_law_pick" s_law_pick)
    (d__law_tie : DefIn K "_law_tie" s_law_tie)
    (d__law_further : DefIn K "_law_further" s_law_further)
    (d__law_start : DefIn K "_law_start" s_law_start)
    (d__law_growth : DefIn K "_law_growth" s_law_growth)
    (d__law_is_integer : DefIn K "_law_is_integer" s_law_is_integer)
    (d__law_are_integers : DefIn K "_law_are_integers" s_law_are_integers)
    (d__law_is_flat : DefIn K "_law_is_flat" s_law_is_flat)
    (d__law_way_sum : DefIn K "_law_way_sum" s_law_way_sum)
    (d__law_is_near : DefIn K "_law_is_near" s_law_is_near)
    (d__law_is_over : DefIn K "_law_is_over" s_law_is_over)
    (d__law_is_certificate : DefIn K "_law_is_certificate" s_law_is_certificate)
    (d__law_sums : DefIn K "_law_sums" s_law_sums)
    (d__law_distance : DefIn K "_law_distance" s_law_distance)
    (d__law_level : DefIn K "_law_level" s_law_level)
    (d__law_heights : DefIn K "_law_heights" s_law_heights)
    (d__law_own_over : DefIn K "_law_own_over" s_law_own_over)
    (d__law_some_way : DefIn K "_law_some_way" s_law_some_way)
    (d__law_own_near : DefIn K "_law_own_near" s_law_own_near)
    (d__law_is_told_right : DefIn K "_law_is_told_right" s_law_is_told_right)
    (d__law_are_own_right : DefIn K "_law_are_own_right" s_law_are_own_right)
    (d__law_deck : DefIn K "_law_deck" s_law_deck)
    (d_law : DefIn K "law" s_law)
    (z_isinstance : PySem.W.nsIn K mainGlobals "isinstance" = some none)
    (z_int : PySem.W.nsIn K mainGlobals "int" = some none)
    (z_bool : PySem.W.nsIn K mainGlobals "bool" = some none)
    (z_tuple : PySem.W.nsIn K mainGlobals "tuple" = some none)
    (z_str : PySem.W.nsIn K mainGlobals "str" = some none)
    (z_list : PySem.W.nsIn K mainGlobals "list" = some none)
    (z_dict : PySem.W.nsIn K mainGlobals "dict" = some none)
    (z_set : PySem.W.nsIn K mainGlobals "set" = some none)
    (z_len : PySem.W.nsIn K mainGlobals "len" = some none)
    (z_all : PySem.W.nsIn K mainGlobals "all" = some none)
    (z_any : PySem.W.nsIn K mainGlobals "any" = some none)
    (z_sorted : PySem.W.nsIn K mainGlobals "sorted" = some none)
    (z_zip : PySem.W.nsIn K mainGlobals "zip" = some none)
    (z_enumerate : PySem.W.nsIn K mainGlobals "enumerate" = some none)
    (z_range : PySem.W.nsIn K mainGlobals "range" = some none)
    (z_min : PySem.W.nsIn K mainGlobals "min" = some none)
    (z_max : PySem.W.nsIn K mainGlobals "max" = some none)
    (z_abs : PySem.W.nsIn K mainGlobals "abs" = some none)
    (z_repr : PySem.W.nsIn K mainGlobals "repr" = some none)
    {tk : Tok} (kinds : PySem.W.nsIn K mainGlobals "KINDS" = some (some (.int 3 tk))) :
    ∃ fd : FuncData, (∀ (s : Shared) (v : Value), BindsTo s fd ⟨[v], []⟩ [("_law_script", v)]) ∧ ∀ base : Heap, K.In base → base.Ns mainGlobals mg → FnOk l.prog w K mg base CX0 14 fa fd ["_law_script"] (spLawTop K) := by
  have B : Bt mg := ⟨PySem.W.mg_none_of X G z_isinstance, PySem.W.mg_none_of X G z_int, PySem.W.mg_none_of X G z_bool, PySem.W.mg_none_of X G z_tuple, PySem.W.mg_none_of X G z_str, PySem.W.mg_none_of X G z_list, PySem.W.mg_none_of X G z_dict, PySem.W.mg_none_of X G z_set, PySem.W.mg_none_of X G z_len, PySem.W.mg_none_of X G z_all, PySem.W.mg_none_of X G z_any, PySem.W.mg_none_of X G z_sorted, PySem.W.mg_none_of X G z_zip, PySem.W.mg_none_of X G z_enumerate, PySem.W.mg_none_of X G z_range, PySem.W.mg_none_of X G z_min, PySem.W.mg_none_of X G z_max, PySem.W.mg_none_of X G z_abs, PySem.W.mg_none_of X G z_repr, ⟨tk, PySem.W.mg_of X G kinds⟩⟩
  obtain ⟨f_is_integer, fd_is_integer, F_is_integer, m_is_integer⟩ := d_is_integer.get X G
  obtain ⟨f_is_between, fd_is_between, F_is_between, m_is_between⟩ := d_is_between.get X G
  obtain ⟨f_is_place, fd_is_place, F_is_place, m_is_place⟩ := d_is_place.get X G
  obtain ⟨f_is_tie, fd_is_tie, F_is_tie, m_is_tie⟩ := d_is_tie.get X G
  obtain ⟨f_has_kinds_below, fd_has_kinds_below, F_has_kinds_below, m_has_kinds_below⟩ := d_has_kinds_below.get X G
  obtain ⟨f_is_web_value, fd_is_web_value, F_is_web_value, m_is_web_value⟩ := d_is_web_value.get X G
  obtain ⟨f_is_growth_value, fd_is_growth_value, F_is_growth_value, m_is_growth_value⟩ := d_is_growth_value.get X G
  obtain ⟨f_is_book_value, fd_is_book_value, F_is_book_value, m_is_book_value⟩ := d_is_book_value.get X G
  obtain ⟨f_is_garden_value, fd_is_garden_value, F_is_garden_value, m_is_garden_value⟩ := d_is_garden_value.get X G
  obtain ⟨f_need_garden, fd_need_garden, F_need_garden, m_need_garden⟩ := d_need_garden.get X G
  obtain ⟨f_need_from, fd_need_from, F_need_from, m_need_from⟩ := d_need_from.get X G
  obtain ⟨f_tied_lengths, fd_tied_lengths, F_tied_lengths, m_tied_lengths⟩ := d_tied_lengths.get X G
  obtain ⟨f_spread_sums, fd_spread_sums, F_spread_sums, m_spread_sums⟩ := d_spread_sums.get X G
  obtain ⟨f_sums_from, fd_sums_from, F_sums_from, m_sums_from⟩ := d_sums_from.get X G
  obtain ⟨f_end_rows, fd_end_rows, F_end_rows, m_end_rows⟩ := d_end_rows.get X G
  obtain ⟨f_need_places, fd_need_places, F_need_places, m_need_places⟩ := d_need_places.get X G
  obtain ⟨f_need_unlike, fd_need_unlike, F_need_unlike, m_need_unlike⟩ := d_need_unlike.get X G
  obtain ⟨f_need_question, fd_need_question, F_need_question, m_need_question⟩ := d_need_question.get X G
  obtain ⟨f_distance_after, fd_distance_after, F_distance_after, m_distance_after⟩ := d_distance_after.get X G
  obtain ⟨f_way_by, fd_way_by, F_way_by, m_way_by⟩ := d_way_by.get X G
  obtain ⟨f_heights_by, fd_heights_by, F_heights_by, m_heights_by⟩ := d_heights_by.get X G
  obtain ⟨f_near_paper, fd_near_paper, F_near_paper, m_near_paper⟩ := d_near_paper.get X G
  obtain ⟨f_over_paper, fd_over_paper, F_over_paper, m_over_paper⟩ := d_over_paper.get X G
  obtain ⟨f_judge_near, fd_judge_near, F_judge_near, m_judge_near⟩ := d_judge_near.get X G
  obtain ⟨f_way_size, fd_way_size, F_way_size, m_way_size⟩ := d_way_size.get X G
  obtain ⟨f_are_tables, fd_are_tables, F_are_tables, m_are_tables⟩ := d_are_tables.get X G
  obtain ⟨f_is_near, fd_is_near, F_is_near, m_is_near⟩ := d_is_near.get X G
  obtain ⟨f_are_heights, fd_are_heights, F_are_heights, m_are_heights⟩ := d_are_heights.get X G
  obtain ⟨f_is_over, fd_is_over, F_is_over, m_is_over⟩ := d_is_over.get X G
  obtain ⟨f_near_holds, fd_near_holds, F_near_holds, m_near_holds⟩ := d_near_holds.get X G
  obtain ⟨f__law_draw, fd__law_draw, F__law_draw, m__law_draw⟩ := d__law_draw.get X G
  obtain ⟨f__law_pick, fd__law_pick, F__law_pick, m__law_pick⟩ := d__law_pick.get X G
  obtain ⟨f__law_tie, fd__law_tie, F__law_tie, m__law_tie⟩ := d__law_tie.get X G
  obtain ⟨f__law_further, fd__law_further, F__law_further, m__law_further⟩ := d__law_further.get X G
  obtain ⟨f__law_start, fd__law_start, F__law_start, m__law_start⟩ := d__law_start.get X G
  obtain ⟨f__law_growth, fd__law_growth, F__law_growth, m__law_growth⟩ := d__law_growth.get X G
  obtain ⟨f__law_is_integer, fd__law_is_integer, F__law_is_integer, m__law_is_integer⟩ := d__law_is_integer.get X G
  obtain ⟨f__law_are_integers, fd__law_are_integers, F__law_are_integers, m__law_are_integers⟩ := d__law_are_integers.get X G
  obtain ⟨f__law_is_flat, fd__law_is_flat, F__law_is_flat, m__law_is_flat⟩ := d__law_is_flat.get X G
  obtain ⟨f__law_way_sum, fd__law_way_sum, F__law_way_sum, m__law_way_sum⟩ := d__law_way_sum.get X G
  obtain ⟨f__law_is_near, fd__law_is_near, F__law_is_near, m__law_is_near⟩ := d__law_is_near.get X G
  obtain ⟨f__law_is_over, fd__law_is_over, F__law_is_over, m__law_is_over⟩ := d__law_is_over.get X G
  obtain ⟨f__law_is_certificate, fd__law_is_certificate, F__law_is_certificate, m__law_is_certificate⟩ := d__law_is_certificate.get X G
  obtain ⟨f__law_sums, fd__law_sums, F__law_sums, m__law_sums⟩ := d__law_sums.get X G
  obtain ⟨f__law_distance, fd__law_distance, F__law_distance, m__law_distance⟩ := d__law_distance.get X G
  obtain ⟨f__law_level, fd__law_level, F__law_level, m__law_level⟩ := d__law_level.get X G
  obtain ⟨f__law_heights, fd__law_heights, F__law_heights, m__law_heights⟩ := d__law_heights.get X G
  obtain ⟨f__law_own_over, fd__law_own_over, F__law_own_over, m__law_own_over⟩ := d__law_own_over.get X G
  obtain ⟨f__law_some_way, fd__law_some_way, F__law_some_way, m__law_some_way⟩ := d__law_some_way.get X G
  obtain ⟨f__law_own_near, fd__law_own_near, F__law_own_near, m__law_own_near⟩ := d__law_own_near.get X G
  obtain ⟨f__law_is_told_right, fd__law_is_told_right, F__law_is_told_right, m__law_is_told_right⟩ := d__law_is_told_right.get X G
  obtain ⟨f__law_are_own_right, fd__law_are_own_right, F__law_are_own_right, m__law_are_own_right⟩ := d__law_are_own_right.get X G
  obtain ⟨f__law_deck, fd__law_deck, F__law_deck, m__law_deck⟩ := d__law_deck.get X G
  obtain ⟨f_law, fd_law, F_law, m_law⟩ := d_law.get X G
  have e := hfa.symm.trans m_law
  cases e
  have b_is_integer := F_is_integer.binds (ps := ["thing"]) fun _ _ _ _ _ _ us hl => match us, hl with | [_], _ => rfl
  have b_is_between := F_is_between.binds (ps := ["thing", "least", "most"]) fun _ _ _ _ _ _ us hl => match us, hl with | [_, _, _], _ => rfl
  have b_is_place := F_is_place.binds (ps := ["web", "thing"]) fun _ _ _ _ _ _ us hl => match us, hl with | [_, _], _ => rfl
  have b_is_tie := F_is_tie.binds (ps := ["places", "thing"]) fun _ _ _ _ _ _ us hl => match us, hl with | [_, _], _ => rfl
  have b_has_kinds_below := F_has_kinds_below.binds (ps := ["web", "many"]) fun _ _ _ _ _ _ us hl => match us, hl with | [_, _], _ => rfl
  have b_is_web_value := F_is_web_value.binds (ps := ["thing"]) fun _ _ _ _ _ _ us hl => match us, hl with | [_], _ => rfl
  have b_is_growth_value := F_is_growth_value.binds (ps := ["thing"]) fun _ _ _ _ _ _ us hl => match us, hl with | [_], _ => rfl
  have b_is_book_value := F_is_book_value.binds (ps := ["thing"]) fun _ _ _ _ _ _ us hl => match us, hl with | [_], _ => rfl
  have b_is_garden_value := F_is_garden_value.binds (ps := ["thing"]) fun _ _ _ _ _ _ us hl => match us, hl with | [_], _ => rfl
  have b_need_garden := F_need_garden.binds (ps := ["garden"]) fun _ _ _ _ _ _ us hl => match us, hl with | [_], _ => rfl
  have b_need_from := F_need_from.binds (ps := ["thing", "least"]) fun _ _ _ _ _ _ us hl => match us, hl with | [_, _], _ => rfl
  have b_tied_lengths := F_tied_lengths.binds (ps := ["web", "numbers"]) fun _ _ _ _ _ _ us hl => match us, hl with | [_, _], _ => rfl
  have b_spread_sums := F_spread_sums.binds (ps := ["ties", "begin"]) fun _ _ _ _ _ _ us hl => match us, hl with | [_, _], _ => rfl
  have b_sums_from := F_sums_from.binds (ps := ["places", "ties", "place"]) fun _ _ _ _ _ _ us hl => match us, hl with | [_, _, _], _ => rfl
  have b_end_rows := F_end_rows.binds (ps := ["book", "n"]) fun _ _ _ _ _ _ us hl => match us, hl with | [_, _], _ => rfl
  have b_need_places := F_need_places.binds (ps := ["garden", "some"]) fun _ _ _ _ _ _ us hl => match us, hl with | [_, _], _ => rfl
  have b_need_unlike := F_need_unlike.binds (ps := ["garden", "p", "q"]) fun _ _ _ _ _ _ us hl => match us, hl with | [_, _, _], _ => rfl
  have b_need_question := F_need_question.binds (ps := ["garden", "p", "q", "n", "d"]) fun _ _ _ _ _ _ us hl => match us, hl with | [_, _, _, _, _], _ => rfl
  have b_distance_after := F_distance_after.binds (ps := ["garden", "p", "q", "n"]) fun _ _ _ _ _ _ us hl => match us, hl with | [_, _, _, _], _ => rfl
  have b_way_by := F_way_by.binds (ps := ["web", "numbers", "p", "q"]) fun _ _ _ _ _ _ us hl => match us, hl with | [_, _, _, _], _ => rfl
  have b_heights_by := F_heights_by.binds (ps := ["web", "steps", "place", "most"]) fun _ _ _ _ _ _ us hl => match us, hl with | [_, _, _, _], _ => rfl
  have b_near_paper := F_near_paper.binds (ps := ["garden", "p", "q", "rows"]) fun _ _ _ _ _ _ us hl => match us, hl with | [_, _, _, _], _ => rfl
  have b_over_paper := F_over_paper.binds (ps := ["garden", "p", "n", "d"]) fun _ _ _ _ _ _ us hl => match us, hl with | [_, _, _, _], _ => rfl
  have b_judge_near := F_judge_near.binds (ps := ["garden", "p", "q", "n", "d"]) fun _ _ _ _ _ _ us hl => match us, hl with | [_, _, _, _, _], _ => rfl
  have b_way_size := F_way_size.binds (ps := ["web", "sizes", "thing", "p", "q"]) fun _ _ _ _ _ _ us hl => match us, hl with | [_, _, _, _, _], _ => rfl
  have b_are_tables := F_are_tables.binds (ps := ["book", "n", "thing"]) fun _ _ _ _ _ _ us hl => match us, hl with | [_, _, _], _ => rfl
  have b_is_near := F_is_near.binds (ps := ["garden", "p", "q", "d", "tables", "way"]) fun _ _ _ _ _ _ us hl => match us, hl with | [_, _, _, _, _, _], _ => rfl
  have b_are_heights := F_are_heights.binds (ps := ["web", "steps", "thing"]) fun _ _ _ _ _ _ us hl => match us, hl with | [_, _, _], _ => rfl
  have b_is_over := F_is_over.binds (ps := ["garden", "p", "q", "d", "tables", "heights"]) fun _ _ _ _ _ _ us hl => match us, hl with | [_, _, _, _, _, _], _ => rfl
  have b_near_holds := F_near_holds.binds (ps := ["garden", "p", "q", "n", "d", "thing"]) fun _ _ _ _ _ _ us hl => match us, hl with | [_, _, _, _, _, _], _ => rfl
  have b__law_draw := F__law_draw.binds (ps := ["_law_deck_here", "_law_below"]) fun _ _ _ _ _ _ us hl => match us, hl with | [_, _], _ => rfl
  have b__law_pick := F__law_pick.binds (ps := ["_law_deck_here", "_law_some"]) fun _ _ _ _ _ _ us hl => match us, hl with | [_, _], _ => rfl
  have b__law_tie := F__law_tie.binds (ps := ["_law_deck_here", "_law_a", "_law_b", "_law_kinds"]) fun _ _ _ _ _ _ us hl => match us, hl with | [_, _, _, _], _ => rfl
  have b__law_further := F__law_further.binds (ps := ["_law_deck_here", "_law_many", "_law_kinds"]) fun _ _ _ _ _ _ us hl => match us, hl with | [_, _, _], _ => rfl
  have b__law_start := F__law_start.binds (ps := ["_law_deck_here", "_law_kinds"]) fun _ _ _ _ _ _ us hl => match us, hl with | [_, _], _ => rfl
  have b__law_growth := F__law_growth.binds (ps := ["_law_deck_here", "_law_kinds"]) fun _ _ _ _ _ _ us hl => match us, hl with | [_, _], _ => rfl
  have b__law_is_integer := F__law_is_integer.binds (ps := ["_law_thing"]) fun _ _ _ _ _ _ us hl => match us, hl with | [_], _ => rfl
  have b__law_are_integers := F__law_are_integers.binds (ps := ["_law_thing"]) fun _ _ _ _ _ _ us hl => match us, hl with | [_], _ => rfl
  have b__law_is_flat := F__law_is_flat.binds (ps := ["_law_web", "_law_heights_here", "_law_steps"]) fun _ _ _ _ _ _ us hl => match us, hl with | [_, _, _], _ => rfl
  have b__law_way_sum := F__law_way_sum.binds (ps := ["_law_web", "_law_way", "_law_at", "_law_to", "_law_sizes"]) fun _ _ _ _ _ _ us hl => match us, hl with | [_, _, _, _, _], _ => rfl
  have b__law_is_near := F__law_is_near.binds (ps := ["_law_garden", "_law_p", "_law_q", "_law_d", "_law_tables", "_law_way"]) fun _ _ _ _ _ _ us hl => match us, hl with | [_, _, _, _, _, _], _ => rfl
  have b__law_is_over := F__law_is_over.binds (ps := ["_law_garden", "_law_p", "_law_q", "_law_d", "_law_tables", "_law_heights_here"]) fun _ _ _ _ _ _ us hl => match us, hl with | [_, _, _, _, _, _], _ => rfl
  have b__law_is_certificate := F__law_is_certificate.binds (ps := ["_law_garden", "_law_p", "_law_q", "_law_n", "_law_d", "_law_thing"]) fun _ _ _ _ _ _ us hl => match us, hl with | [_, _, _, _, _, _], _ => rfl
  have b__law_sums := F__law_sums.binds (ps := ["_law_web", "_law_sizes", "_law_begin"]) fun _ _ _ _ _ _ us hl => match us, hl with | [_, _, _], _ => rfl
  have b__law_distance := F__law_distance.binds (ps := ["_law_garden", "_law_p", "_law_q", "_law_n"]) fun _ _ _ _ _ _ us hl => match us, hl with | [_, _, _, _], _ => rfl
  have b__law_level := F__law_level.binds (ps := ["_law_web", "_law_heights_here", "_law_p", "_law_q"]) fun _ _ _ _ _ _ us hl => match us, hl with | [_, _, _, _], _ => rfl
  have b__law_heights := F__law_heights.binds (ps := ["_law_deck_here", "_law_web", "_law_steps", "_law_p", "_law_q"]) fun _ _ _ _ _ _ us hl => match us, hl with | [_, _, _, _, _], _ => rfl
  have b__law_own_over := F__law_own_over.binds (ps := ["_law_deck_here", "_law_garden", "_law_p", "_law_q", "_law_n"]) fun _ _ _ _ _ _ us hl => match us, hl with | [_, _, _, _, _], _ => rfl
  have b__law_some_way := F__law_some_way.binds (ps := ["_law_deck_here", "_law_web", "_law_sizes", "_law_p", "_law_q"]) fun _ _ _ _ _ _ us hl => match us, hl with | [_, _, _, _, _], _ => rfl
  have b__law_own_near := F__law_own_near.binds (ps := ["_law_deck_here", "_law_garden", "_law_p", "_law_q", "_law_n"]) fun _ _ _ _ _ _ us hl => match us, hl with | [_, _, _, _, _], _ => rfl
  have b__law_is_told_right := F__law_is_told_right.binds (ps := ["_law_deck_here", "_law_garden", "_law_p", "_law_q", "_law_n", "_law_d", "_law_distance_here"]) fun _ _ _ _ _ _ us hl => match us, hl with | [_, _, _, _, _, _, _], _ => rfl
  have b__law_are_own_right := F__law_are_own_right.binds (ps := ["_law_deck_here", "_law_garden", "_law_p", "_law_q", "_law_n"]) fun _ _ _ _ _ _ us hl => match us, hl with | [_, _, _, _, _], _ => rfl
  have b__law_deck := F__law_deck.binds (ps := ["_law_script"]) fun _ _ _ _ _ _ us hl => match us, hl with | [_], _ => rfl
  have b_law := F_law.binds (ps := ["_law_script"]) fun _ _ _ _ _ _ us hl => match us, hl with | [_], _ => rfl
  refine ⟨fd_law, fun s v => ?_, fun base KX2 G2 => ?_⟩
  · obtain ⟨oc, od, kV, doc, pm, an, cdv, ct, osl, e, lk, hcd⟩ := F_law.ex
    subst e
    exact .of_eq rfl
  have g_is_integer := ok_is_integer (P := l.prog) (w := w) (base := base) F_is_integer B 
  have h_is_integer := HasFn.mk g_is_integer F_is_integer m_is_integer b_is_integer
  have g_is_between := ok_is_between (P := l.prog) (w := w) (base := base) F_is_between B h_is_integer
  have h_is_between := HasFn.mk g_is_between F_is_between m_is_between b_is_between
  have g_is_place := ok_is_place (P := l.prog) (w := w) (base := base) F_is_place B h_is_between
  have h_is_place := HasFn.mk g_is_place F_is_place m_is_place b_is_place
  have g_is_tie := ok_is_tie (P := l.prog) (w := w) (base := base) F_is_tie B h_is_between
  have h_is_tie := HasFn.mk g_is_tie F_is_tie m_is_tie b_is_tie
  have g_has_kinds_below := ok_has_kinds_below (P := l.prog) (w := w) (base := base) F_has_kinds_below B 
  have h_has_kinds_below := HasFn.mk g_has_kinds_below F_has_kinds_below m_has_kinds_below b_has_kinds_below
  have g_is_web_value := ok_is_web_value (P := l.prog) (w := w) (base := base) F_is_web_value B h_is_integer h_is_tie
  have h_is_web_value := HasFn.mk g_is_web_value F_is_web_value m_is_web_value b_is_web_value
  have g_is_growth_value := ok_is_growth_value (P := l.prog) (w := w) (base := base) F_is_growth_value B h_is_web_value
  have h_is_growth_value := HasFn.mk g_is_growth_value F_is_growth_value m_is_growth_value b_is_growth_value
  have g_is_book_value := ok_is_book_value (P := l.prog) (w := w) (base := base) F_is_book_value B h_is_growth_value h_has_kinds_below
  have h_is_book_value := HasFn.mk g_is_book_value F_is_book_value m_is_book_value b_is_book_value
  have g_is_garden_value := ok_is_garden_value (P := l.prog) (w := w) (base := base) F_is_garden_value B h_is_web_value h_is_book_value h_has_kinds_below
  have h_is_garden_value := HasFn.mk g_is_garden_value F_is_garden_value m_is_garden_value b_is_garden_value
  have g_need_garden := ok_need_garden (P := l.prog) (w := w) (base := base) F_need_garden B h_is_garden_value
  have h_need_garden := HasFn.mk g_need_garden F_need_garden m_need_garden b_need_garden
  have g_need_from := ok_need_from (P := l.prog) (w := w) (base := base) F_need_from B h_is_integer
  have h_need_from := HasFn.mk g_need_from F_need_from m_need_from b_need_from
  have g_tied_lengths := ok_tied_lengths (P := l.prog) (w := w) (base := base) F_tied_lengths B 
  have h_tied_lengths := HasFn.mk g_tied_lengths F_tied_lengths m_tied_lengths b_tied_lengths
  have g_spread_sums := ok_spread_sums (P := l.prog) (w := w) (base := base) F_spread_sums B 
  have h_spread_sums := HasFn.mk g_spread_sums F_spread_sums m_spread_sums b_spread_sums
  have g_sums_from := ok_sums_from (P := l.prog) (w := w) (base := base) F_sums_from B h_spread_sums
  have h_sums_from := HasFn.mk g_sums_from F_sums_from m_sums_from b_sums_from
  have g_end_rows := ok_end_rows (P := l.prog) (w := w) (base := base) F_end_rows B h_sums_from h_tied_lengths
  have h_end_rows := HasFn.mk g_end_rows F_end_rows m_end_rows b_end_rows
  have g_need_places := ok_need_places (P := l.prog) (w := w) (base := base) F_need_places B h_need_garden h_is_place
  have h_need_places := HasFn.mk g_need_places F_need_places m_need_places b_need_places
  have g_need_unlike := ok_need_unlike (P := l.prog) (w := w) (base := base) F_need_unlike B h_need_places
  have h_need_unlike := HasFn.mk g_need_unlike F_need_unlike m_need_unlike b_need_unlike
  have g_need_question := ok_need_question (P := l.prog) (w := w) (base := base) F_need_question B h_need_unlike h_need_from
  have h_need_question := HasFn.mk g_need_question F_need_question m_need_question b_need_question
  have g_distance_after := ok_distance_after (P := l.prog) (w := w) (base := base) F_distance_after B h_need_places h_need_from h_end_rows h_sums_from h_tied_lengths
  have h_distance_after := HasFn.mk g_distance_after F_distance_after m_distance_after b_distance_after
  have g_way_by := ok_way_by (P := l.prog) (w := w) (base := base) F_way_by B h_sums_from h_tied_lengths
  have h_way_by := HasFn.mk g_way_by F_way_by m_way_by b_way_by
  have g_heights_by := ok_heights_by (P := l.prog) (w := w) (base := base) F_heights_by B h_sums_from h_tied_lengths
  have h_heights_by := HasFn.mk g_heights_by F_heights_by m_heights_by b_heights_by
  have g_near_paper := ok_near_paper (P := l.prog) (w := w) (base := base) F_near_paper B h_way_by
  have h_near_paper := HasFn.mk g_near_paper F_near_paper m_near_paper b_near_paper
  have g_over_paper := ok_over_paper (P := l.prog) (w := w) (base := base) F_over_paper B h_heights_by
  have h_over_paper := HasFn.mk g_over_paper F_over_paper m_over_paper b_over_paper
  have g_judge_near := ok_judge_near (P := l.prog) (w := w) (base := base) F_judge_near B h_need_question h_end_rows h_sums_from h_tied_lengths h_near_paper h_over_paper
  have h_judge_near := HasFn.mk g_judge_near F_judge_near m_judge_near b_judge_near
  have k_judge_near : HasFnK l.prog w K mg base "judge_near" 12 ["d", "n", "q", "p", "garden"] _ := HasFnK.mk g_judge_near F_judge_near m_judge_near fun _ _ _ _ _ _ ws hl => match ws, hl with | [_, _, _, _, _], _ => rfl
  have g_way_size := ok_way_size (P := l.prog) (w := w) (base := base) F_way_size B h_is_between
  have h_way_size := HasFn.mk g_way_size F_way_size m_way_size b_way_size
  have g_are_tables := ok_are_tables (P := l.prog) (w := w) (base := base) F_are_tables B 
  have h_are_tables := HasFn.mk g_are_tables F_are_tables m_are_tables b_are_tables
  have g_is_near := ok_is_near (P := l.prog) (w := w) (base := base) F_is_near B h_way_size
  have h_is_near := HasFn.mk g_is_near F_is_near m_is_near b_is_near
  have g_are_heights := ok_are_heights (P := l.prog) (w := w) (base := base) F_are_heights B h_is_integer
  have h_are_heights := HasFn.mk g_are_heights F_are_heights m_are_heights b_are_heights
  have g_is_over := ok_is_over (P := l.prog) (w := w) (base := base) F_is_over B h_are_heights
  have h_is_over := HasFn.mk g_is_over F_is_over m_is_over b_is_over
  have g_near_holds := ok_near_holds (P := l.prog) (w := w) (base := base) F_near_holds B h_need_question h_are_tables h_is_near h_is_over
  have h_near_holds := HasFn.mk g_near_holds F_near_holds m_near_holds b_near_holds
  have k_near_holds : HasFnK l.prog w K mg base "near_holds" 12 ["thing", "d", "n", "q", "p", "garden"] _ := HasFnK.mk g_near_holds F_near_holds m_near_holds fun _ _ _ _ _ _ ws hl => match ws, hl with | [_, _, _, _, _, _], _ => rfl
  have g__law_draw := ok_law_draw (P := l.prog) (w := w) (base := base) F__law_draw B 
  have h__law_draw := HasFn.mk g__law_draw F__law_draw m__law_draw b__law_draw
  have g__law_pick := ok_law_pick (P := l.prog) (w := w) (base := base) F__law_pick B h__law_draw
  have h__law_pick := HasFn.mk g__law_pick F__law_pick m__law_pick b__law_pick
  have g__law_tie := ok_law_tie (P := l.prog) (w := w) (base := base) F__law_tie B h__law_draw
  have h__law_tie := HasFn.mk g__law_tie F__law_tie m__law_tie b__law_tie
  have g__law_further := ok_law_further (P := l.prog) (w := w) (base := base) F__law_further B h__law_draw h__law_tie
  have h__law_further := HasFn.mk g__law_further F__law_further m__law_further b__law_further
  have g__law_start := ok_law_start (P := l.prog) (w := w) (base := base) F__law_start B h__law_draw h__law_pick h__law_tie h__law_further
  have h__law_start := HasFn.mk g__law_start F__law_start m__law_start b__law_start
  have g__law_growth := ok_law_growth (P := l.prog) (w := w) (base := base) F__law_growth B h__law_draw h__law_pick h__law_tie h__law_further
  have h__law_growth := HasFn.mk g__law_growth F__law_growth m__law_growth b__law_growth
  have g__law_is_integer := ok_law_is_integer (P := l.prog) (w := w) (base := base) F__law_is_integer B 
  have h__law_is_integer := HasFn.mk g__law_is_integer F__law_is_integer m__law_is_integer b__law_is_integer
  have g__law_are_integers := ok_law_are_integers (P := l.prog) (w := w) (base := base) F__law_are_integers B h__law_is_integer
  have h__law_are_integers := HasFn.mk g__law_are_integers F__law_are_integers m__law_are_integers b__law_are_integers
  have g__law_is_flat := ok_law_is_flat (P := l.prog) (w := w) (base := base) F__law_is_flat B h__law_are_integers
  have h__law_is_flat := HasFn.mk g__law_is_flat F__law_is_flat m__law_is_flat b__law_is_flat
  have g__law_way_sum := ok_law_way_sum (P := l.prog) (w := w) (base := base) F__law_way_sum B h__law_are_integers
  have h__law_way_sum := HasFn.mk g__law_way_sum F__law_way_sum m__law_way_sum b__law_way_sum
  have g__law_is_near := ok_law_is_near (P := l.prog) (w := w) (base := base) F__law_is_near B h__law_way_sum
  have h__law_is_near := HasFn.mk g__law_is_near F__law_is_near m__law_is_near b__law_is_near
  have g__law_is_over := ok_law_is_over (P := l.prog) (w := w) (base := base) F__law_is_over B h__law_is_flat
  have h__law_is_over := HasFn.mk g__law_is_over F__law_is_over m__law_is_over b__law_is_over
  have g__law_is_certificate := ok_law_is_certificate (P := l.prog) (w := w) (base := base) F__law_is_certificate B h__law_is_near h__law_is_over
  have h__law_is_certificate := HasFn.mk g__law_is_certificate F__law_is_certificate m__law_is_certificate b__law_is_certificate
  have g__law_sums := ok_law_sums (P := l.prog) (w := w) (base := base) F__law_sums B 
  have h__law_sums := HasFn.mk g__law_sums F__law_sums m__law_sums b__law_sums
  have g__law_distance := ok_law_distance (P := l.prog) (w := w) (base := base) F__law_distance B h__law_sums
  have h__law_distance := HasFn.mk g__law_distance F__law_distance m__law_distance b__law_distance
  have g__law_level := ok_law_level (P := l.prog) (w := w) (base := base) F__law_level B h__law_sums
  have h__law_level := HasFn.mk g__law_level F__law_level m__law_level b__law_level
  have g__law_heights := ok_law_heights (P := l.prog) (w := w) (base := base) F__law_heights B h__law_draw h__law_pick h__law_sums
  have h__law_heights := HasFn.mk g__law_heights F__law_heights m__law_heights b__law_heights
  have g__law_own_over := ok_law_own_over (P := l.prog) (w := w) (base := base) F__law_own_over B h__law_heights h__law_level
  have h__law_own_over := HasFn.mk g__law_own_over F__law_own_over m__law_own_over b__law_own_over
  have g__law_some_way := ok_law_some_way (P := l.prog) (w := w) (base := base) F__law_some_way B h__law_draw
  have h__law_some_way := HasFn.mk g__law_some_way F__law_some_way m__law_some_way b__law_some_way
  have g__law_own_near := ok_law_own_near (P := l.prog) (w := w) (base := base) F__law_own_near B h__law_draw h__law_some_way h__law_way_sum
  have h__law_own_near := HasFn.mk g__law_own_near F__law_own_near m__law_own_near b__law_own_near
  have g__law_is_told_right := ok_law_told (P := l.prog) (w := w) (base := base) F__law_is_told_right B h__law_draw h_judge_near k_judge_near h__law_is_certificate h_near_holds
  have h__law_is_told_right := HasFn.mk g__law_is_told_right F__law_is_told_right m__law_is_told_right b__law_is_told_right
  have g__law_are_own_right := ok_law_own (P := l.prog) (w := w) (base := base) F__law_are_own_right B h__law_own_near h__law_own_over h__law_is_flat h__law_is_over h_near_holds k_near_holds
  have h__law_are_own_right := HasFn.mk g__law_are_own_right F__law_are_own_right m__law_are_own_right b__law_are_own_right
  have g__law_deck := ok_law_deck (P := l.prog) (w := w) (base := base) F__law_deck B 
  have h__law_deck := HasFn.mk g__law_deck F__law_deck m__law_deck b__law_deck
  have g_law := ok_law (P := l.prog) (w := w) (base := base) F_law B ⟨f__law_deck, fd__law_deck, _, g__law_deck, m__law_deck, F__law_deck.kp, b__law_deck⟩ h__law_draw h__law_pick h__law_start h__law_growth h__law_distance h_distance_after h__law_is_told_right h__law_are_own_right
  exact g_law
theorem walk {l : PySem.W.OpenLaw} {q : Program} {loose : List Str} {XP : (Str → Option Value) → Heap → Prop} {YP : World → Heap → Prop} {d : DefRec} {K : Params → PySem.W.Frag} (hn : l.most = some 63) (hdf : d.params.defaults = [])
    (hY : ∀ (w : World) (h : Heap), YP w h → (K w.params).In h)
    (F : ∀ (w : World) (mg : Str → Option Value) (fa : Addr) (h : Heap), (K w.params).In h → h.Ns mainGlobals mg → mg d.name = some (.ref fa) →
      ∃ fd : FuncData, (∀ (s : Shared) (u : Value), BindsTo s fd ⟨[u], []⟩ [("_law_script", u)]) ∧ ∀ base : Heap, (K w.params).In base → base.Ns mainGlobals mg → FnOk l.prog w (K w.params) mg base CX0 14 fa fd ["_law_script"] (spLawTop (K w.params))) :
    PySem.W.WalkO q loose XP YP l.row.toRowW d [] (fun f vs => PySem.call f vs) :=
  L2.walk_of (n := 63) (k := 14) (x := "_law_script") (CX := fun _ => CX0) (sp := fun w => spLawTop (K w.params)) hn (by decide) hdf ⟨rfl, by decide, by decide⟩ hY F (fun _ _ a ns hl _ hS => ⟨a, ns, rfl, hS, hl, fun _ => rfl⟩) fun _ _ _ _ _ z => z
end Md
open PySem PySem.W PyProof.Rows
set_option maxRecDepth 100000 in
set_option maxHeartbeats 0 in
theorem PySem.Challenge.cw_manydeep_k67_whole_certificates_of_dista_holds : PySem.Challenge.rw_manydeep_k67_whole_certificates_of_dista.Holds := by
  w_on; o_law; k_head; (case hw => w_witness2)
  k_fill
  refine Md.walk (l := PySem.Challenge.rw_manydeep_k67_whole_certificates_of_dista) rfl rfl (fun w h Y => PySem.W.kIn_of Y) ?F
  case F =>
    intro w mg fa h KX G hmg
    refine' Md.all_mk KX G hmg ?d_is_integer ?d_is_between ?d_is_place ?d_is_tie ?d_has_kinds_below ?d_is_web_value ?d_is_growth_value ?d_is_book_value ?d_is_garden_value ?d_need_garden ?d_need_from ?d_tied_lengths ?d_spread_sums ?d_sums_from ?d_end_rows ?d_need_places ?d_need_unlike ?d_need_question ?d_distance_after ?d_way_by ?d_heights_by ?d_near_paper ?d_over_paper ?d_judge_near ?d_way_size ?d_are_tables ?d_is_near ?d_are_heights ?d_is_over ?d_near_holds ?d__law_draw ?d__law_pick ?d__law_tie ?d__law_further ?d__law_start ?d__law_growth ?d__law_is_integer ?d__law_are_integers ?d__law_is_flat ?d__law_way_sum ?d__law_is_near ?d__law_is_over ?d__law_is_certificate ?d__law_sums ?d__law_distance ?d__law_level ?d__law_heights ?d__law_own_over ?d__law_some_way ?d__law_own_near ?d__law_is_told_right ?d__law_are_own_right ?d__law_deck ?d_law ?z_isinstance ?z_int ?z_bool ?z_tuple ?z_str ?z_list ?z_dict ?z_set ?z_len ?z_all ?z_any ?z_sorted ?z_zip ?z_enumerate ?z_range ?z_min ?z_max ?z_abs ?z_repr ?kinds
    (case d_is_integer => (refine' Md.defIn_mk ?a ?l ?c ?k; (case a => k_is); (case l => k_is); (case c => k_is); (case k => k_is)))
    (case d_is_between => (refine' Md.defIn_mk ?a ?l ?c ?k; (case a => k_is); (case l => k_is); (case c => k_is); (case k => k_is)))
    (case d_is_place => (refine' Md.defIn_mk ?a ?l ?c ?k; (case a => k_is); (case l => k_is); (case c => k_is); (case k => k_is)))
    (case d_is_tie => (refine' Md.defIn_mk ?a ?l ?c ?k; (case a => k_is); (case l => k_is); (case c => k_is); (case k => k_is)))
    (case d_has_kinds_below => (refine' Md.defIn_mk ?a ?l ?c ?k; (case a => k_is); (case l => k_is); (case c => k_is); (case k => k_is)))
    (case d_is_web_value => (refine' Md.defIn_mk ?a ?l ?c ?k; (case a => k_is); (case l => k_is); (case c => k_is); (case k => k_is)))
    (case d_is_growth_value => (refine' Md.defIn_mk ?a ?l ?c ?k; (case a => k_is); (case l => k_is); (case c => k_is); (case k => k_is)))
    (case d_is_book_value => (refine' Md.defIn_mk ?a ?l ?c ?k; (case a => k_is); (case l => k_is); (case c => k_is); (case k => k_is)))
    (case d_is_garden_value => (refine' Md.defIn_mk ?a ?l ?c ?k; (case a => k_is); (case l => k_is); (case c => k_is); (case k => k_is)))
    (case d_need_garden => (refine' Md.defIn_mk ?a ?l ?c ?k; (case a => k_is); (case l => k_is); (case c => k_is); (case k => k_is)))
    (case d_need_from => (refine' Md.defIn_mk ?a ?l ?c ?k; (case a => k_is); (case l => k_is); (case c => k_is); (case k => k_is)))
    (case d_tied_lengths => (refine' Md.defIn_mk ?a ?l ?c ?k; (case a => k_is); (case l => k_is); (case c => k_is); (case k => k_is)))
    (case d_spread_sums => (refine' Md.defIn_mk ?a ?l ?c ?k; (case a => k_is); (case l => k_is); (case c => k_is); (case k => k_is)))
    (case d_sums_from => (refine' Md.defIn_mk ?a ?l ?c ?k; (case a => k_is); (case l => k_is); (case c => k_is); (case k => k_is)))
    (case d_end_rows => (refine' Md.defIn_mk ?a ?l ?c ?k; (case a => k_is); (case l => k_is); (case c => k_is); (case k => k_is)))
    (case d_need_places => (refine' Md.defIn_mk ?a ?l ?c ?k; (case a => k_is); (case l => k_is); (case c => k_is); (case k => k_is)))
    (case d_need_unlike => (refine' Md.defIn_mk ?a ?l ?c ?k; (case a => k_is); (case l => k_is); (case c => k_is); (case k => k_is)))
    (case d_need_question => (refine' Md.defIn_mk ?a ?l ?c ?k; (case a => k_is); (case l => k_is); (case c => k_is); (case k => k_is)))
    (case d_distance_after => (refine' Md.defIn_mk ?a ?l ?c ?k; (case a => k_is); (case l => k_is); (case c => k_is); (case k => k_is)))
    (case d_way_by => (refine' Md.defIn_mk ?a ?l ?c ?k; (case a => k_is); (case l => k_is); (case c => k_is); (case k => k_is)))
    (case d_heights_by => (refine' Md.defIn_mk ?a ?l ?c ?k; (case a => k_is); (case l => k_is); (case c => k_is); (case k => k_is)))
    (case d_near_paper => (refine' Md.defIn_mk ?a ?l ?c ?k; (case a => k_is); (case l => k_is); (case c => k_is); (case k => k_is)))
    (case d_over_paper => (refine' Md.defIn_mk ?a ?l ?c ?k; (case a => k_is); (case l => k_is); (case c => k_is); (case k => k_is)))
    (case d_judge_near => (refine' Md.defIn_mk ?a ?l ?c ?k; (case a => k_is); (case l => k_is); (case c => k_is); (case k => k_is)))
    (case d_way_size => (refine' Md.defIn_mk ?a ?l ?c ?k; (case a => k_is); (case l => k_is); (case c => k_is); (case k => k_is)))
    (case d_are_tables => (refine' Md.defIn_mk ?a ?l ?c ?k; (case a => k_is); (case l => k_is); (case c => k_is); (case k => k_is)))
    (case d_is_near => (refine' Md.defIn_mk ?a ?l ?c ?k; (case a => k_is); (case l => k_is); (case c => k_is); (case k => k_is)))
    (case d_are_heights => (refine' Md.defIn_mk ?a ?l ?c ?k; (case a => k_is); (case l => k_is); (case c => k_is); (case k => k_is)))
    (case d_is_over => (refine' Md.defIn_mk ?a ?l ?c ?k; (case a => k_is); (case l => k_is); (case c => k_is); (case k => k_is)))
    (case d_near_holds => (refine' Md.defIn_mk ?a ?l ?c ?k; (case a => k_is); (case l => k_is); (case c => k_is); (case k => k_is)))
    (case d__law_draw => (refine' Md.defIn_mk ?a ?l ?c ?k; (case a => k_is); (case l => k_is); (case c => k_is); (case k => k_is)))
    (case d__law_pick => (refine' Md.defIn_mk ?a ?l ?c ?k; (case a => k_is); (case l => k_is); (case c => k_is); (case k => k_is)))
    (case d__law_tie => (refine' Md.defIn_mk ?a ?l ?c ?k; (case a => k_is); (case l => k_is); (case c => k_is); (case k => k_is)))
    (case d__law_further => (refine' Md.defIn_mk ?a ?l ?c ?k; (case a => k_is); (case l => k_is); (case c => k_is); (case k => k_is)))
    (case d__law_start => (refine' Md.defIn_mk ?a ?l ?c ?k; (case a => k_is); (case l => k_is); (case c => k_is); (case k => k_is)))
    (case d__law_growth => (refine' Md.defIn_mk ?a ?l ?c ?k; (case a => k_is); (case l => k_is); (case c => k_is); (case k => k_is)))
    (case d__law_is_integer => (refine' Md.defIn_mk ?a ?l ?c ?k; (case a => k_is); (case l => k_is); (case c => k_is); (case k => k_is)))
    (case d__law_are_integers => (refine' Md.defIn_mk ?a ?l ?c ?k; (case a => k_is); (case l => k_is); (case c => k_is); (case k => k_is)))
    (case d__law_is_flat => (refine' Md.defIn_mk ?a ?l ?c ?k; (case a => k_is); (case l => k_is); (case c => k_is); (case k => k_is)))
    (case d__law_way_sum => (refine' Md.defIn_mk ?a ?l ?c ?k; (case a => k_is); (case l => k_is); (case c => k_is); (case k => k_is)))
    (case d__law_is_near => (refine' Md.defIn_mk ?a ?l ?c ?k; (case a => k_is); (case l => k_is); (case c => k_is); (case k => k_is)))
    (case d__law_is_over => (refine' Md.defIn_mk ?a ?l ?c ?k; (case a => k_is); (case l => k_is); (case c => k_is); (case k => k_is)))
    (case d__law_is_certificate => (refine' Md.defIn_mk ?a ?l ?c ?k; (case a => k_is); (case l => k_is); (case c => k_is); (case k => k_is)))
    (case d__law_sums => (refine' Md.defIn_mk ?a ?l ?c ?k; (case a => k_is); (case l => k_is); (case c => k_is); (case k => k_is)))
    (case d__law_distance => (refine' Md.defIn_mk ?a ?l ?c ?k; (case a => k_is); (case l => k_is); (case c => k_is); (case k => k_is)))
    (case d__law_level => (refine' Md.defIn_mk ?a ?l ?c ?k; (case a => k_is); (case l => k_is); (case c => k_is); (case k => k_is)))
    (case d__law_heights => (refine' Md.defIn_mk ?a ?l ?c ?k; (case a => k_is); (case l => k_is); (case c => k_is); (case k => k_is)))
    (case d__law_own_over => (refine' Md.defIn_mk ?a ?l ?c ?k; (case a => k_is); (case l => k_is); (case c => k_is); (case k => k_is)))
    (case d__law_some_way => (refine' Md.defIn_mk ?a ?l ?c ?k; (case a => k_is); (case l => k_is); (case c => k_is); (case k => k_is)))
    (case d__law_own_near => (refine' Md.defIn_mk ?a ?l ?c ?k; (case a => k_is); (case l => k_is); (case c => k_is); (case k => k_is)))
    (case d__law_is_told_right => (refine' Md.defIn_mk ?a ?l ?c ?k; (case a => k_is); (case l => k_is); (case c => k_is); (case k => k_is)))
    (case d__law_are_own_right => (refine' Md.defIn_mk ?a ?l ?c ?k; (case a => k_is); (case l => k_is); (case c => k_is); (case k => k_is)))
    (case d__law_deck => (refine' Md.defIn_mk ?a ?l ?c ?k; (case a => k_is); (case l => k_is); (case c => k_is); (case k => k_is)))
    (case d_law => (refine' Md.defIn_mk ?a ?l ?c ?k; (case a => k_is); (case l => k_is); (case c => k_is); (case k => k_is)))
    (case z_isinstance => k_is)
    (case z_int => k_is)
    (case z_bool => k_is)
    (case z_tuple => k_is)
    (case z_str => k_is)
    (case z_list => k_is)
    (case z_dict => k_is)
    (case z_set => k_is)
    (case z_len => k_is)
    (case z_all => k_is)
    (case z_any => k_is)
    (case z_sorted => k_is)
    (case z_zip => k_is)
    (case z_enumerate => k_is)
    (case z_range => k_is)
    (case z_min => k_is)
    (case z_max => k_is)
    (case z_abs => k_is)
    (case z_repr => k_is)
    (case kinds => k_is)
end EndPart
