import PyProof.Rows.All
import Wide.All
import OpenK.AllK
import Wide.FinOn
import HandS.ForMost
import HandS.IsInst
import HandS.Deep
import HandS.FStr
import HandS.Star
import PySem.Challenge.RW_fivefault_k46_whole_terms_between
import KE.KUnpackStar
import HandS.Zip
import HandS.ForExc
import HandS.ExcInit
import HandS.ExcField
import HandS.TryMany
import HandS.ClsMeth
import HandS.SetFor
import HandS.Strs
import PyProof.ListStr
import HandS.More
import HandS.Lambda
import HandS.Defaults
import HandS.Head0
import HandS.Head1
import HandS.Head2
import HandS.HeadEnd
import HandS.HeadHook1
import HandS.HeadHook2
import HandS.HeadHook3
import HandS.HeadHook4
import HandS.HeadWalk
set_option Elab.async false
set_option linter.all false
set_option maxRecDepth 100000
set_option maxHeartbeats 0
/-! A layer of data over the hand layer: what a reading does, told over data (PyData), whatever the heap. -/
namespace Z
open PySem L2

/-- what may change: as the hand layer has it, and tables of code objects -/
def Mu : Option HO → Prop
  | some (.tbl _) => True
  | some (.ext _) => False
  | o => Mut o
/-! ### data at a value; its lists stand away from N -/
mutual
inductive Da (K : PySem.W.Frag) (N : Addr → Prop) (H : Hp) : V → PyData → Prop
  | non : Da K N H .non .none
  | bl (b : Bool) : Da K N H (.bl b) (.bool b)
  | int (i : Int) : Da K N H (.int i) (.int i)
  | str (x : Str) : Da K N H (.str x) (.str x)
  | lst {a : Addr} {xs : List V} {ds : List PyData} : H a = some (.lst xs) → ¬ N a → xs.length ≤ sizeLine → DaAll K N H xs ds → Da K N H (.ref a) (.list ds)
  | tup {a : Addr} {xs : List V} {ds : List PyData} : SqT K H a xs → xs.length ≤ sizeLine → DaAll K N H xs ds → Da K N H (.ref a) (.tuple ds)
  | dct {a : Addr} {kvs : List (Key × V)} {ks : List (PyData × PyData)} : H a = some (.dK kvs) → ¬ N a → DaKv K N H kvs ks → Da K N H (.ref a) (.dict ks)
inductive DaKv (K : PySem.W.Frag) (N : Addr → Prop) (H : Hp) : List (Key × V) → List (PyData × PyData) → Prop
  | nil : DaKv K N H [] []
  | cons {x : Str} {v : V} {d : PyData} {kvs : List (Key × V)} {ks : List (PyData × PyData)} : Da K N H v d → DaKv K N H kvs ks → DaKv K N H ((Sum.inr x, v) :: kvs) ((.str x, d) :: ks)
inductive DaAll (K : PySem.W.Frag) (N : Addr → Prop) (H : Hp) : List V → List PyData → Prop
  | nil : DaAll K N H [] []
  | cons {v : V} {vs : List V} {d : PyData} {ds : List PyData} : Da K N H v d → DaAll K N H vs ds → DaAll K N H (v :: vs) (d :: ds)
end
section
variable {K : PySem.W.Frag} {N N' : Addr → Prop} {H H' : Hp}
theorem DaAll.length : ∀ {vs : List V} {ds : List PyData}, DaAll K N H vs ds → vs.length = ds.length
  | _, _, .nil => rfl
  | _, _, .cons _ t => by rw [List.length_cons, List.length_cons, DaAll.length t]
theorem DaAll.get : ∀ {vs : List V} {ds : List PyData} {i : Nat} {d : PyData}, DaAll K N H vs ds → ds[i]? = some d → ∃ v, vs[i]? = some v ∧ Da K N H v d
  | _, _, _, _, .nil, e => by simp at e
  | _, _, 0, _, .cons h _, e => by simp at e; subst e; exact ⟨_, rfl, h⟩
  | _, _, i + 1, d, .cons _ t, e => by
    obtain ⟨v, h1, h2⟩ := DaAll.get (i := i) (d := d) t (by simpa using e)
    exact ⟨v, by simpa using h1, h2⟩
theorem DaAll.getV : ∀ {vs : List V} {ds : List PyData} {i : Nat} {v : V}, DaAll K N H vs ds → vs[i]? = some v → ∃ d, ds[i]? = some d ∧ Da K N H v d
  | _, _, _, _, .nil, e => by simp at e
  | _, _, 0, _, .cons h _, e => by simp at e; subst e; exact ⟨_, rfl, h⟩
  | _, _, i + 1, d, .cons _ t, e => by
    obtain ⟨v, h1, h2⟩ := DaAll.getV (i := i) (v := d) t (by simpa using e)
    exact ⟨v, by simpa using h1, h2⟩
theorem DaAll.append : ∀ {vs ws : List V} {ds es : List PyData}, DaAll K N H vs ds → DaAll K N H ws es → DaAll K N H (vs ++ ws) (ds ++ es)
  | _, _, _, _, .nil, s => s
  | _, _, _, _, .cons h t, s => .cons h (DaAll.append t s)
theorem DaAll.drop : ∀ {vs : List V} {ds : List PyData} (n : Nat), DaAll K N H vs ds → DaAll K N H (vs.drop n) (ds.drop n)
  | _, _, 0, h => h
  | _, _, _ + 1, .nil => .nil
  | _, _, n + 1, .cons _ t => DaAll.drop n t
theorem DaAll.take : ∀ {vs : List V} {ds : List PyData} (n : Nat), DaAll K N H vs ds → DaAll K N H (vs.take n) (ds.take n)
  | _, _, 0, _ => .nil
  | _, _, _ + 1, .nil => .nil
  | _, _, n + 1, .cons h t => .cons h (DaAll.take n t)
theorem DaAll.set : ∀ {vs : List V} {ds : List PyData} {v : V} {d : PyData} (n : Nat), Da K N H v d → DaAll K N H vs ds → DaAll K N H (vs.set n v) (ds.set n d)
  | _, _, _, _, _, _, .nil => .nil
  | _, _, _, _, 0, r, .cons _ t => .cons r t
  | _, _, _, _, n + 1, r, .cons h t => .cons h (DaAll.set n r t)
theorem DaAll.one {v : V} {d : PyData} (h : Da K N H v d) : DaAll K N H [v] [d] := .cons h .nil
theorem SqT_keep {a : Addr} {xs : List V} (k : ∀ o, H a = some o → ¬ Mu (some o) → H' a = some o) (h : SqT K H a xs) : SqT K H' a xs := by
  rcases h with (h | ⟨o, h⟩) | h
  · exact .inl (.inl (k _ h fun z => z))
  · exact .inl (.inr ⟨o, k _ h fun z => z⟩)
  · exact .inr h
mutual
theorem Da.keep (hl : ∀ a o, ¬ N a → H a = some o → H' a = some o) (ht : ∀ a o, H a = some o → ¬ Mu (some o) → H' a = some o) (hn : ∀ a, N' a → (∃ o, H a = some o) → N a) : ∀ (d : PyData) (v : V), Da K N H v d → Da K N' H' v d
  | .none, _, h => by cases h; exact .non
  | .bool _, _, h => by cases h; exact .bl _
  | .int _, _, h => by cases h; exact .int _
  | .str _, _, h => by cases h; exact .str _
  | .list ds, _, h => by
    cases h with
    | lst e n z t => exact .lst (hl _ _ n e) (fun q => n (hn _ q ⟨_, e⟩)) z (DaAll.keep hl ht hn ds _ t)
  | .tuple ds, _, h => by
    cases h with
    | tup e z t => exact .tup (SqT_keep (ht _) e) z (DaAll.keep hl ht hn ds _ t)
  | .dict ks, _, h => by
    cases h with
    | dct e n t => exact .dct (hl _ _ n e) (fun q => n (hn _ q ⟨_, e⟩)) (DaKv.keep hl ht hn ks _ t)
theorem DaKv.keep (hl : ∀ a o, ¬ N a → H a = some o → H' a = some o) (ht : ∀ a o, H a = some o → ¬ Mu (some o) → H' a = some o) (hn : ∀ a, N' a → (∃ o, H a = some o) → N a) : ∀ (ks : List (PyData × PyData)) (kvs : List (Key × V)), DaKv K N H kvs ks → DaKv K N' H' kvs ks
  | [], _, h => by cases h; exact .nil
  | (k, d) :: ks, _, h => by
    cases h with
    | cons h1 h2 => exact .cons (Da.keep hl ht hn d _ h1) (DaKv.keep hl ht hn ks _ h2)
theorem DaAll.keep (hl : ∀ a o, ¬ N a → H a = some o → H' a = some o) (ht : ∀ a o, H a = some o → ¬ Mu (some o) → H' a = some o) (hn : ∀ a, N' a → (∃ o, H a = some o) → N a) : ∀ (ds : List PyData) (vs : List V), DaAll K N H vs ds → DaAll K N' H' vs ds
  | [], _, h => by cases h; exact .nil
  | d :: ds, _, h => by
    cases h with
    | cons h1 h2 => exact .cons (Da.keep hl ht hn d _ h1) (DaAll.keep hl ht hn ds _ h2)
end
mutual
theorem Da.dp : ∀ (d : PyData) (v : V), d.canLay0 = true → Da K N H v d → Dp K H v d
  | .none, _, _, h => by cases h; exact .non
  | .bool _, _, _, h => by cases h; exact .bl _
  | .int _, _, _, h => by cases h; exact .int _
  | .str _, _, _, h => by cases h; exact .str _
  | .list ds, _, q, h => by
    cases h with
    | lst e n z t => exact .lst (SqL.of e) (DaAll.dp ds _ (by simpa [PyData.canLay0] using q) t)
  | .tuple ds, _, q, h => by
    cases h with
    | tup e z t => exact .tup e (DaAll.dp ds _ (by simpa [PyData.canLay0] using q) t)
  | .dict _, _, q, _ => by simp [PyData.canLay0] at q
theorem DaAll.dp : ∀ (ds : List PyData) (vs : List V), PyData.canLayAll0 ds = true → DaAll K N H vs ds → DpAll K H vs ds
  | [], _, _, h => by cases h; exact .nil
  | d :: ds, _, q, h => by
    have q' : d.canLay0 = true ∧ PyData.canLayAll0 ds = true := by simpa [PyData.canLayAll0] using q
    cases h with
    | cons h1 h2 => exact .cons (Da.dp d _ q'.1 h1) (DaAll.dp ds _ q'.2 h2)
end
end

/-! no list, no dict within -/
mutual
def nol : PyData → Bool
  | .list _ => false
  | .dict _ => false
  | .tuple ds => nols ds
  | _ => true
def nols : List PyData → Bool
  | [] => true
  | d :: ds => nol d && nols ds
end
section
variable {K : PySem.W.Frag} {N N' : Addr → Prop} {H H' : Hp}
mutual
theorem Da.nolk (ht : ∀ a o, H a = some o → ¬ Mu (some o) → H' a = some o) : ∀ (d : PyData) (v : V), nol d = true → Da K N H v d → Da K N' H' v d
  | .none, _, _, h => by cases h; exact .non
  | .bool _, _, _, h => by cases h; exact .bl _
  | .int _, _, _, h => by cases h; exact .int _
  | .str _, _, _, h => by cases h; exact .str _
  | .list ds, _, z, _ => by simp [nol] at z
  | .tuple ds, _, q, h => by
    cases h with
    | tup e z t => exact .tup (SqT_keep (ht _) e) z (DaAll.nolk ht ds _ (by simpa [nol] using q) t)
  | .dict _, _, z, _ => by simp [nol] at z
theorem DaAll.nolk (ht : ∀ a o, H a = some o → ¬ Mu (some o) → H' a = some o) : ∀ (ds : List PyData) (vs : List V), nols ds = true → DaAll K N H vs ds → DaAll K N' H' vs ds
  | [], _, _, h => by cases h; exact .nil
  | d :: ds, _, q, h => by
    have q' : nol d = true ∧ nols ds = true := by simpa [nols] using q
    cases h with
    | cons h1 h2 => exact .cons (Da.nolk ht d _ q'.1 h1) (DaAll.nolk ht ds _ q'.2 h2)
end
theorem nols_append : ∀ (a b : List PyData), nols (a ++ b) = (nols a && nols b)
  | [], b => by simp [nols]
  | d :: a, b => by simp [nols, nols_append a b, Bool.and_assoc]
theorem nols_mem {ds : List PyData} : nols ds = true ↔ ∀ d ∈ ds, nol d = true := by
  induction ds with
  | nil => simp [nols]
  | cons d ds ih => simp [nols, ih]
end

/-! ### worlds -/
/-- what may change (M), what lists of data stand away from (N), the state (G) and what is true of the heap (I) -/
structure Wd where
  G : Type
  M : Addr → Prop
  N : Addr → Prop
  I : G → Hp → Prop
  sub : ∀ a, M a → N a
  loc : ∀ {g : G} {H H' : Hp}, I g H → (∀ a, N a → H' a = H a) → (∀ a o, H a = some o → ¬ Mu (some o) → H' a = some o) → I g H'
  trk : ∀ {g : G} {H : Hp} {a : Addr}, I g H → N a → ∃ o, H a = some o
  mu : ∀ {g : G} {H : Hp} {a : Addr}, I g H → M a → Mu (H a)
theorem Wd.mono (W : Wd) {g : W.G} {H H' : Hp} (i : W.I g H) (s : Same H H') : W.I g H' := W.loc i (fun a n => by
  obtain ⟨o, e⟩ := W.trk i n
  rw [e, s a o e]) fun a o h _ => s a o h
/-- a step of the heap -/
structure Stp (W : Wd) (H H' : Hp) : Prop where
  keep : ∀ a o, ¬ W.M a → H a = some o → H' a = some o
  there : ∀ a o, H a = some o → ∃ o', H' a = some o'
theorem Stp.refl {W : Wd} (H : Hp) : Stp W H H := ⟨fun _ _ _ h => h, fun _ o h => ⟨o, h⟩⟩
theorem Stp.trans {W : Wd} {H H1 H2 : Hp} (a : Stp W H H1) (b : Stp W H1 H2) : Stp W H H2 :=
  ⟨fun c o n h => b.keep c o n (a.keep c o n h), fun c o h => let ⟨o', h'⟩ := a.there c o h; b.there c o' h'⟩
theorem Stp.same {W : Wd} {H H' : Hp} (s : Same H H') : Stp W H H' := ⟨fun a o _ h => s a o h, fun a o h => ⟨o, s a o h⟩⟩
theorem Same.new {H : Hp} {p : Addr} {o : HO} (h : H p = none) : Same H (upd H p o) := fun a u e => by
  rw [upd_ne (ne_of_none e h)]
  exact e
theorem Stp.fresh {W : Wd} {H H' : Hp} (e : Stp W H H') {p : Addr} (h : H' p = none) : H p = none := by
  cases q : H p with
  | none => rfl
  | some o =>
    obtain ⟨o', e'⟩ := e.there p o q
    rw [e'] at h
    cases h
section
variable {K : PySem.W.Frag} {W : Wd} {g : W.G} {H H' : Hp}
theorem Da.stp {d : PyData} {v : V} (i : W.I g H) (e : Stp W H H') (h : Da K W.N H v d) : Da K W.N H' v d :=
  Da.keep (fun a o n q => e.keep a o (fun m => n (W.sub a m)) q) (fun a o q m => e.keep a o (fun z => m (by have := W.mu i z; rw [q] at this; exact this)) q) (fun _ q _ => q) d v h
theorem DaAll.stp {ds : List PyData} {vs : List V} (i : W.I g H) (e : Stp W H H') (h : DaAll K W.N H vs ds) : DaAll K W.N H' vs ds :=
  DaAll.keep (fun a o n q => e.keep a o (fun m => n (W.sub a m)) q) (fun a o q m => e.keep a o (fun z => m (by have := W.mu i z; rw [q] at this; exact this)) q) (fun _ q _ => q) ds vs h
end

/-! ### slots -/
/-- what a slot is known to hold: nothing, data, this very value -/
inductive Sl where
  | no | dat (d : PyData) | val (v : V)
def RelS (K : PySem.W.Frag) (N : Addr → Prop) (H : Hp) (v : V) : Sl → Prop
  | .no => False
  | .dat d => Da K N H v d
  | .val u => v = u
abbrev RelSs (K : PySem.W.Frag) (N : Addr → Prop) (H : Hp) : List V → List Sl → Prop := Paired (RelS K N H)
theorem RelS.stp {K : PySem.W.Frag} {W : Wd} {g : W.G} {H H' : Hp} {v : V} : ∀ {s : Sl}, W.I g H → Stp W H H' → RelS K W.N H v s → RelS K W.N H' v s
  | .no, _, _, h => h
  | .dat _, i, e, h => Da.stp (g := g) i e h
  | .val _, _, _, h => h
theorem RelSs.stp {K : PySem.W.Frag} {W : Wd} {g : W.G} {H H' : Hp} (i : W.I g H) (e : Stp W H H') : ∀ {vs : List V} {ss : List Sl}, RelSs K W.N H vs ss → RelSs K W.N H' vs ss
  | _, _, .nil => .nil
  | _, _, .cons h t => .cons (h.stp (g := g) i e) (RelSs.stp i e t)
theorem RelSs.all {K : PySem.W.Frag} {N : Addr → Prop} {H : Hp} : ∀ {vs : List V} {ds : List PyData}, RelSs K N H vs (ds.map .dat) → DaAll K N H vs ds
  | _, [], .nil => .nil
  | _, _ :: _, .cons h t => .cons h (RelSs.all t)
theorem RelSs.of {K : PySem.W.Frag} {N : Addr → Prop} {H : Hp} : ∀ {vs : List V} {ds : List PyData}, DaAll K N H vs ds → RelSs K N H vs (ds.map .dat)
  | _, [], .nil => .nil
  | _, _ :: _, .cons h t => .cons h (RelSs.of t)
/-- the frame -/
structure Fr (K : PySem.W.Frag) (N : Addr → Prop) (H : Hp) (σ : St) (δ : List Sl) : Prop where
  len : σ.length = δ.length
  at_ : ∀ (i : Nat) (s : Sl), δ[i]? = some s → s ≠ .no → ∃ v, σ[i]? = some (some v) ∧ RelS K N H v s
section
variable {K : PySem.W.Frag} {W : Wd} {g : W.G} {H H' : Hp} {σ : St} {δ : List Sl}
theorem Fr.stp (i : W.I g H) (e : Stp W H H') (f : Fr K W.N H σ δ) : Fr K W.N H' σ δ := ⟨f.len, fun j s h n => let ⟨v, a, b⟩ := f.at_ j s h n; ⟨v, a, b.stp (g := g) i e⟩⟩
theorem Fr.set {N : Addr → Prop} {v : V} {s : Sl} (f : Fr K N H σ δ) (j : Nat) (r : RelS K N H v s) : Fr K N H (σ.set j (some v)) (δ.set j s) := by
  refine ⟨by rw [List.length_set, List.length_set, f.len], fun i t h n => ?_⟩
  by_cases e : j = i
  · subst e
    by_cases hj : j < δ.length
    · rw [List.getElem?_set_self hj] at h
      cases h
      exact ⟨v, by rw [List.getElem?_set_self (by rw [f.len]; exact hj)], r⟩
    · rw [List.getElem?_eq_none (by rw [List.length_set]; omega)] at h
      cases h
  · rw [List.getElem?_set_ne e] at h ⊢
    exact f.at_ i t h n
def wipeS (δ : List Sl) : List Nat → List Sl
  | [] => δ
  | v :: vs => (wipeS δ vs).set v .no
theorem Fr.wipe {N : Addr → Prop} (f : Fr K N H σ δ) : ∀ vs : List Nat, Fr K N H (wipe σ vs) (wipeS δ vs)
  | [] => f
  | v :: vs => by
    have q := Fr.wipe f vs
    refine ⟨?_, fun i t h n => ?_⟩
    · show ((L2.wipe σ vs).set v none).length = ((wipeS δ vs).set v .no).length
      rw [List.length_set, List.length_set, q.len]
    · have h' : ((wipeS δ vs).set v .no)[i]? = some t := h
      by_cases e : v = i
      · subst e
        by_cases hj : v < (wipeS δ vs).length
        · rw [List.getElem?_set_self hj] at h'
          cases h'
          exact absurd rfl n
        · rw [List.getElem?_eq_none (by rw [List.length_set]; omega)] at h'
          cases h'
      · rw [List.getElem?_set_ne e] at h'
        obtain ⟨x, a, b⟩ := q.at_ i t h' n
        refine ⟨x, ?_, b⟩
        show ((L2.wipe σ vs).set v none)[i]? = _
        rw [List.getElem?_set_ne e]
        exact a
end

/-! ### what a reading does -/
def EvS (K : PySem.W.Frag) (W : Wd) (te : TE) (δ : List Sl) (g : W.G) (P : Sl → W.G → Prop) : Prop :=
  ∀ σ H, W.I g H → Fr K W.N H σ δ → ∀ Q : VK, (∀ v s g' H', Stp W H H' → W.I g' H' → RelS K W.N H' v s → P s g' → Q v H') → te σ H Q
def TvS (K : PySem.W.Frag) (W : Wd) (tt : TT) (δ : List Sl) (g : W.G) (P : Bool → W.G → Prop) : Prop :=
  ∀ σ H, W.I g H → Fr K W.N H σ δ → ∀ Q : Bool → Hp → Prop, (∀ b g' H', Stp W H H' → W.I g' H' → P b g' → Q b H') → tt σ H Q
def AvS (K : PySem.W.Frag) (W : Wd) (ta : TA) (δ : List Sl) (g : W.G) (P : List Sl → W.G → Prop) : Prop :=
  ∀ σ H, W.I g H → Fr K W.N H σ δ → ∀ Q : List V → Hp → Prop, (∀ vs ss g' H', Stp W H H' → W.I g' H' → RelSs K W.N H' vs ss → P ss g' → Q vs H') → ta σ H Q
def OvS (K : PySem.W.Frag) (W : Wd) (to : TO) (δ : List Sl) (g : W.G) (P : Option Int → W.G → Prop) : Prop :=
  ∀ σ H, W.I g H → Fr K W.N H σ δ → ∀ Q : Option Int → Hp → Prop, (∀ o g' H', Stp W H H' → W.I g' H' → P o g' → Q o H') → to σ H Q
/-- two-place operations, one-place ones, calls: by values -/
def RvS (K : PySem.W.Frag) (W : Wd) (r : R2) (s1 s2 : Sl) (g : W.G) (P : Sl → W.G → Prop) : Prop :=
  ∀ v1 v2 H, W.I g H → RelS K W.N H v1 s1 → RelS K W.N H v2 s2 → ∀ Q : VK, (∀ v s g' H', Stp W H H' → W.I g' H' → RelS K W.N H' v s → P s g' → Q v H') → r v1 v2 H Q
def RcS (K : PySem.W.Frag) (W : Wd) (r : List V → Hp → VK → Prop) (ss : List Sl) (g : W.G) (P : Sl → W.G → Prop) : Prop :=
  ∀ vs H, W.I g H → RelSs K W.N H vs ss → ∀ Q : VK, (∀ v s g' H', Stp W H H' → W.I g' H' → RelS K W.N H' v s → P s g' → Q v H') → r vs H Q
/-- the state stays, the value is told -/
def is {W : Wd} (s : Sl) (g : W.G) : Sl → W.G → Prop := fun s' g' => s' = s ∧ g' = g
def isB {W : Wd} (b : Bool) (g : W.G) : Bool → W.G → Prop := fun b' g' => b' = b ∧ g' = g
def isA {W : Wd} (ss : List Sl) (g : W.G) : List Sl → W.G → Prop := fun s' g' => s' = ss ∧ g' = g
abbrev EvD (K : PySem.W.Frag) (W : Wd) (te : TE) (δ : List Sl) (g : W.G) (d : PyData) : Prop := EvS K W te δ g (is (.dat d) g)
abbrev EvV (K : PySem.W.Frag) (W : Wd) (te : TE) (δ : List Sl) (g : W.G) (v : V) : Prop := EvS K W te δ g (is (.val v) g)
abbrev TvD (K : PySem.W.Frag) (W : Wd) (tt : TT) (δ : List Sl) (g : W.G) (b : Bool) : Prop := TvS K W tt δ g (isB b g)
abbrev AvD (K : PySem.W.Frag) (W : Wd) (ta : TA) (δ : List Sl) (g : W.G) (ds : List PyData) : Prop := AvS K W ta δ g (isA (ds.map .dat) g)
abbrev RvD (K : PySem.W.Frag) (W : Wd) (r : R2) (d e : PyData) (g : W.G) (x : PyData) : Prop := RvS K W r (.dat d) (.dat e) g (is (.dat x) g)
abbrev RcD (K : PySem.W.Frag) (W : Wd) (r : List V → Hp → VK → Prop) (ds : List PyData) (g : W.G) (x : PyData) : Prop := RcS K W r (ds.map .dat) g (is (.dat x) g)

section
variable {K : PySem.W.Frag} {W : Wd} {δ : List Sl} {g : W.G} {ta tb tc te : TE} {t u : TT} {r : R2} {P Q : Sl → W.G → Prop} {d e x y : PyData} {s : Sl}
theorem EvS.imp (h : EvS K W te δ g P) (k : ∀ s g', P s g' → Q s g') : EvS K W te δ g Q := fun σ H i f R q => h σ H i f R fun v s g' H' a b c p => q v s g' H' a b c (k s g' p)
theorem TvS.imp {P Q : Bool → W.G → Prop} (h : TvS K W t δ g P) (k : ∀ s g', P s g' → Q s g') : TvS K W t δ g Q := fun σ H i f R q => h σ H i f R fun b g' H' a b' p => q b g' H' a b' (k b g' p)
theorem AvS.imp {ta : TA} {P Q : List Sl → W.G → Prop} (h : AvS K W ta δ g P) (k : ∀ s g', P s g' → Q s g') : AvS K W ta δ g Q := fun σ H i f R q => h σ H i f R fun v s g' H' a b c p => q v s g' H' a b c (k s g' p)
theorem EvS.to (h : EvS K W te δ g (is s g)) (k : P s g) : EvS K W te δ g P := h.imp fun _ _ ⟨a, b⟩ => by subst a; subst b; exact k
theorem TvS.to {b : Bool} {P : Bool → W.G → Prop} (h : TvS K W t δ g (isB b g)) (k : P b g) : TvS K W t δ g P := h.imp fun _ _ ⟨a, b⟩ => by subst a; subst b; exact k
theorem EvS.as {s' : Sl} (h : EvS K W te δ g (is s g)) (k : s = s') : EvS K W te δ g (is s' g) := k ▸ h
theorem EvS.asD {d d' : PyData} (h : EvD K W te δ g d) (k : d = d') : EvD K W te δ g d' := k ▸ h
theorem TvS.as {b b' : Bool} (h : TvS K W t δ g (isB b g)) (k : b = b') : TvS K W t δ g (isB b' g) := k ▸ h
/-- names, constants -/
theorem ev_var {i : Nat} (h : δ[i]? = some s) (n : s ≠ .no := by intro z; cases z) : EvS K W (tVar i) δ g (is s g) := fun σ H j f R q => by
  obtain ⟨v, a, b⟩ := f.at_ i s h n
  exact ⟨v, a, q v s g H (Stp.refl H) j b ⟨rfl, rfl⟩⟩
theorem ev_c {v : V} (h : ∀ H, Da K W.N H v d) : EvD K W (tC v) δ g d := fun σ H j f R q => q v (.dat d) g H (Stp.refl H) j (h H) ⟨rfl, rfl⟩
theorem ev_cv {v : V} : EvV K W (tC v) δ g v := fun σ H j f R q => q v (.val v) g H (Stp.refl H) j rfl ⟨rfl, rfl⟩
theorem ev_int {i : Int} : EvD K W (tC (.int i)) δ g (.int i) := ev_c fun _ => .int i
theorem ev_bl {b : Bool} : EvD K W (tC (.bl b)) δ g (.bool b) := ev_c fun _ => .bl b
theorem ev_str {z : Str} : EvD K W (tC (.str z)) δ g (.str z) := ev_c fun _ => .str z
theorem ev_non : EvD K W (tC .non) δ g .none := ev_c fun _ => .non
/-- operators -/
theorem ev_op {P1 : Sl → W.G → Prop} (ha : EvS K W ta δ g P1) (hb : ∀ s1 g1, P1 s1 g1 → EvS K W tb δ g1 fun s2 g2 => RvS K W r s1 s2 g2 P) : EvS K W (tOp r ta tb) δ g P := fun σ H i f R q =>
  ha σ H i f _ fun v1 s1 g1 H1 e1 i1 r1 p1 => hb s1 g1 p1 σ H1 i1 (f.stp i e1) _ fun v2 s2 g2 H2 e2 i2 r2 p2 => p2 v1 v2 H2 i2 (r1.stp (g := g1) i1 e2) r2 R fun v s g' H' e3 i3 r3 p3 => q v s g' H' ((e1.trans e2).trans e3) i3 r3 p3
theorem ev_opD {s1 s2 : Sl} (ha : EvS K W ta δ g (is s1 g)) (hb : EvS K W tb δ g (is s2 g)) (hr : RvS K W r s1 s2 g P) : EvS K W (tOp r ta tb) δ g P :=
  ev_op ha fun _ _ ⟨a, b⟩ => by subst a; subst b; exact hb.to hr
theorem RvS.pure {s1 s2 : Sl} (h : ∀ v1 v2 H, W.I g H → RelS K W.N H v1 s1 → RelS K W.N H v2 s2 → ∀ Q : VK, (∀ v, RelS K W.N H v s → Q v H) → r v1 v2 H Q) : RvS K W r s1 s2 g (is s g) :=
  fun v1 v2 H i r1 r2 R q => h v1 v2 H i r1 r2 R fun v rv => q v s g H (Stp.refl H) i rv ⟨rfl, rfl⟩
/-- truth -/
theorem tv_test (h : EvS K W te δ g (is (.dat (.bool b)) g)) : TvS K W (tTest te) δ g (isB b g) := fun σ H i f R q => h σ H i f _ fun v s g' H' e i' rv ⟨a, c⟩ => by
  subst a; subst c
  cases (show Da K W.N H' v (.bool b) from rv)
  exact ⟨b, rfl, q b _ H' e i' ⟨rfl, rfl⟩⟩
theorem tv_testS {P : Bool → W.G → Prop} (h : EvS K W te δ g fun s g' => ∃ b, s = .dat (.bool b) ∧ P b g') : TvS K W (tTest te) δ g P := fun σ H i f R q => h σ H i f _ fun v s g' H' e i' rv ⟨b, a, c⟩ => by
  subst a
  cases (show Da K W.N H' v (.bool b) from rv)
  exact ⟨b, rfl, q b _ H' e i' c⟩
theorem tv_BS {P : Bool → W.G → Prop} (h : EvS K W te δ g fun s g' => ∃ b, s = .dat (.bool b) ∧ P b g') : TvS K W (tB te) δ g P := fun σ H i f R q => h σ H i f _ fun v s g' H' e i' rv ⟨b, a, c⟩ => by
  subst a
  cases (show Da K W.N H' v (.bool b) from rv)
  exact ⟨b, rfl, q b _ H' e i' c⟩
theorem tv_B {b : Bool} (h : EvS K W te δ g (is (.dat (.bool b)) g)) : TvS K W (tB te) δ g (isB b g) := tv_BS (h.imp fun _ _ ⟨a, c⟩ => ⟨b, a, rfl, c⟩)
theorem tv_andS {P1 P : Bool → W.G → Prop} (h1 : TvS K W t δ g P1) (h2 : ∀ g1, P1 true g1 → TvS K W u δ g1 P) (h3 : ∀ g1, P1 false g1 → P false g1) : TvS K W (tAnd t u) δ g P := fun σ H i f R q => h1 σ H i f _ fun b g1 H1 e1 i1 p1 => by
  cases b with
  | true =>
    show u σ H1 R
    exact h2 g1 p1 σ H1 i1 (f.stp i e1) R fun b g' H' e i' p => q b g' H' (e1.trans e) i' p
  | false =>
    show R false H1
    exact q false g1 H1 e1 i1 (h3 g1 p1)
theorem tv_orS {P1 P : Bool → W.G → Prop} (h1 : TvS K W t δ g P1) (h2 : ∀ g1, P1 false g1 → TvS K W u δ g1 P) (h3 : ∀ g1, P1 true g1 → P true g1) : TvS K W (tOr t u) δ g P := fun σ H i f R q => h1 σ H i f _ fun b g1 H1 e1 i1 p1 => by
  cases b with
  | true =>
    show R true H1
    exact q true g1 H1 e1 i1 (h3 g1 p1)
  | false =>
    show u σ H1 R
    exact h2 g1 p1 σ H1 i1 (f.stp i e1) R fun b g' H' e i' p => q b g' H' (e1.trans e) i' p
theorem tv_and {a b : Bool} (h1 : TvD K W t δ g a) (h2 : a = true → TvD K W u δ g b) : TvD K W (tAnd t u) δ g (a && b) :=
  tv_andS h1 (fun g1 ⟨e, z⟩ => by subst z; exact (h2 e.symm).as (by rw [← e, Bool.true_and])) (fun g1 ⟨e, z⟩ => ⟨by rw [← e, Bool.false_and], z⟩)
theorem tv_or {a b : Bool} (h1 : TvD K W t δ g a) (h2 : a = false → TvD K W u δ g b) : TvD K W (tOr t u) δ g (a || b) :=
  tv_orS h1 (fun g1 ⟨e, z⟩ => by subst z; exact (h2 e.symm).as (by rw [← e, Bool.false_or])) (fun g1 ⟨e, z⟩ => ⟨by rw [← e, Bool.true_or], z⟩)
theorem tv_notS {P : Bool → W.G → Prop} (h1 : TvS K W t δ g fun b g' => P (!b) g') : TvS K W (tNot t) δ g P := fun σ H i f R q => h1 σ H i f _ fun b g1 H1 e1 i1 p1 => q (!b) g1 H1 e1 i1 p1
theorem tv_not {a : Bool} (h1 : TvD K W t δ g a) : TvD K W (tNot t) δ g (!a) := tv_notS (h1.to ⟨rfl, rfl⟩)
theorem ev_andS {P1 : Sl → W.G → Prop} (h1 : EvS K W ta δ g P1) (h0 : ∀ s g1, P1 s g1 → ∃ b, s = .dat (.bool b)) (h2 : ∀ g1, P1 (.dat (.bool true)) g1 → EvS K W tb δ g1 P) (h3 : ∀ g1, P1 (.dat (.bool false)) g1 → P (.dat (.bool false)) g1) : EvS K W (tAndV ta tb) δ g P := fun σ H i f R q =>
  h1 σ H i f _ fun v s g1 H1 e1 i1 rv p1 => by
    obtain ⟨b, rfl⟩ := h0 s g1 p1
    cases (show Da K W.N H1 v (.bool b) from rv)
    refine ⟨b, rfl, ?_⟩
    cases b with
    | true =>
      show tb σ H1 R
      exact h2 g1 p1 σ H1 i1 (f.stp i e1) R fun v s g' H' e i' r p => q v s g' H' (e1.trans e) i' r p
    | false =>
      show R (.bl false) H1
      exact q _ _ g1 H1 e1 i1 rv (h3 g1 p1)
theorem ev_orS {P1 : Sl → W.G → Prop} (h1 : EvS K W ta δ g P1) (h0 : ∀ s g1, P1 s g1 → ∃ b, s = .dat (.bool b)) (h2 : ∀ g1, P1 (.dat (.bool false)) g1 → EvS K W tb δ g1 P) (h3 : ∀ g1, P1 (.dat (.bool true)) g1 → P (.dat (.bool true)) g1) : EvS K W (tOrV ta tb) δ g P := fun σ H i f R q =>
  h1 σ H i f _ fun v s g1 H1 e1 i1 rv p1 => by
    obtain ⟨b, rfl⟩ := h0 s g1 p1
    cases (show Da K W.N H1 v (.bool b) from rv)
    refine ⟨b, rfl, ?_⟩
    cases b with
    | true =>
      show R (.bl true) H1
      exact q _ _ g1 H1 e1 i1 rv (h3 g1 p1)
    | false =>
      show tb σ H1 R
      exact h2 g1 p1 σ H1 i1 (f.stp i e1) R fun v s g' H' e i' r p => q v s g' H' (e1.trans e) i' r p
theorem ev_and {a b : Bool} (h1 : EvD K W ta δ g (.bool a)) (h2 : a = true → EvD K W tb δ g (.bool b)) : EvD K W (tAndV ta tb) δ g (.bool (a && b)) :=
  ev_andS h1 (fun s g1 ⟨e, _⟩ => ⟨a, e⟩) (fun g1 ⟨e, z⟩ => by subst z; injection e with e; injection e with e; exact (h2 e.symm).as (by rw [← e, Bool.true_and])) (fun g1 ⟨e, z⟩ => by injection e with e; injection e with e; exact ⟨by rw [← e, Bool.false_and], z⟩)
theorem ev_or {a b : Bool} (h1 : EvD K W ta δ g (.bool a)) (h2 : a = false → EvD K W tb δ g (.bool b)) : EvD K W (tOrV ta tb) δ g (.bool (a || b)) :=
  ev_orS h1 (fun s g1 ⟨e, _⟩ => ⟨a, e⟩) (fun g1 ⟨e, z⟩ => by subst z; injection e with e; injection e with e; exact (h2 e.symm).as (by rw [← e, Bool.false_or])) (fun g1 ⟨e, z⟩ => by injection e with e; injection e with e; exact ⟨by rw [← e, Bool.true_or], z⟩)
theorem ev_not {a : Bool} (h1 : EvD K W ta δ g (.bool a)) : EvD K W (tNotV ta) δ g (.bool (!a)) := fun σ H i f R q => h1 σ H i f _ fun v s g1 H1 e1 i1 rv ⟨a1, a2⟩ => by
  subst a1; subst a2
  cases (show Da K W.N H1 v (.bool a) from rv)
  exact ⟨a, rfl, q (.bl (!a)) (.dat (.bool (!a))) _ H1 e1 i1 (Da.bl _) ⟨rfl, rfl⟩⟩
theorem ev_ifS {P1 : Bool → W.G → Prop} (h : TvS K W t δ g P1) (h1 : ∀ g1, P1 true g1 → EvS K W ta δ g1 P) (h2 : ∀ g1, P1 false g1 → EvS K W tb δ g1 P) : EvS K W (tIf t ta tb) δ g P := fun σ H i f R q => h σ H i f _ fun b g1 H1 e1 i1 p1 => by
  cases b with
  | true =>
    show ta σ H1 R
    exact h1 g1 p1 σ H1 i1 (f.stp i e1) R fun v s g' H' e i' r p => q v s g' H' (e1.trans e) i' r p
  | false =>
    show tb σ H1 R
    exact h2 g1 p1 σ H1 i1 (f.stp i e1) R fun v s g' H' e i' r p => q v s g' H' (e1.trans e) i' r p
theorem ev_if {b : Bool} (h : TvD K W t δ g b) (h1 : b = true → EvS K W ta δ g P) (h2 : b = false → EvS K W tb δ g P) : EvS K W (tIf t ta tb) δ g P :=
  ev_ifS h (fun g1 ⟨e, z⟩ => by subst z; exact h1 e.symm) (fun g1 ⟨e, z⟩ => by subst z; exact h2 e.symm)
/-- argument lists -/
theorem av_nil : AvS K W tNil δ g (isA [] g) := fun σ H i f R q => q [] [] g H (Stp.refl H) i .nil ⟨rfl, rfl⟩
theorem av_consS {tr : TA} {P1 : Sl → W.G → Prop} {PA : List Sl → W.G → Prop} (h : EvS K W ta δ g P1) (hr : ∀ s g1, P1 s g1 → AvS K W tr δ g1 fun ss g2 => PA (s :: ss) g2) : AvS K W (tCons ta tr) δ g PA := fun σ H i f R q =>
  h σ H i f _ fun v s g1 H1 e1 i1 rv p1 => hr s g1 p1 σ H1 i1 (f.stp i e1) _ fun vs ss g2 H2 e2 i2 rs p2 => q (v :: vs) (s :: ss) g2 H2 (e1.trans e2) i2 (.cons (rv.stp (g := g1) i1 e2) rs) p2
theorem av_cons {tr : TA} {ss : List Sl} (h : EvS K W ta δ g (is s g)) (hr : AvS K W tr δ g (isA ss g)) : AvS K W (tCons ta tr) δ g (isA (s :: ss) g) :=
  av_consS h fun _ _ ⟨a, b⟩ => by subst a; subst b; exact hr.imp fun _ _ ⟨c, d⟩ => ⟨by rw [c], d⟩
theorem av_one (h : EvS K W ta δ g (is s g)) : AvS K W (tCons ta tNil) δ g (isA [s] g) := av_cons h av_nil
theorem av_two {s2 : Sl} (h : EvS K W ta δ g (is s g)) (h2 : EvS K W tb δ g (is s2 g)) : AvS K W (tCons ta (tCons tb tNil)) δ g (isA [s, s2] g) := av_cons h (av_one h2)
/-- a built-in's call -/
theorem ev_cb {tA : TA} {rc : List V → Hp → VK → Prop} {PA : List Sl → W.G → Prop} (h : AvS K W tA δ g PA) (hr : ∀ ss g1, PA ss g1 → RcS K W rc ss g1 P) : EvS K W (tCB rc tA) δ g P := fun σ H i f R q =>
  h σ H i f _ fun vs ss g1 H1 e1 i1 rs p1 => hr ss g1 p1 vs H1 i1 rs R fun v s g2 H2 e2 i2 r2 p2 => q v s g2 H2 (e1.trans e2) i2 r2 p2
theorem ev_cb1 {rc : List V → Hp → VK → Prop} (h : EvS K W ta δ g (is s g)) (hr : RcS K W rc [s] g P) : EvS K W (tCB rc (tCons ta tNil)) δ g P := ev_cb (av_one h) fun _ _ ⟨a, b⟩ => by subst a; subst b; exact hr
theorem ev_cb2 {s2 : Sl} {rc : List V → Hp → VK → Prop} (h : EvS K W ta δ g (is s g)) (h2 : EvS K W tb δ g (is s2 g)) (hr : RcS K W rc [s, s2] g P) : EvS K W (tCB rc (tCons ta (tCons tb tNil))) δ g P := ev_cb (av_two h h2) fun _ _ ⟨a, b⟩ => by subst a; subst b; exact hr
theorem RcS.pure1 {rc : List V → Hp → VK → Prop} {s1 : Sl} (h : ∀ v1 H, W.I g H → RelS K W.N H v1 s1 → ∀ Q : VK, (∀ v, RelS K W.N H v s → Q v H) → rc [v1] H Q) : RcS K W rc [s1] g (is s g) :=
  fun vs H i rs R q => by
    cases rs with
    | cons r1 rr =>
      cases rr
      exact h _ H i r1 R fun v rv => q v s g H (Stp.refl H) i rv ⟨rfl, rfl⟩
theorem RcS.pure2 {rc : List V → Hp → VK → Prop} {s1 s2 : Sl} (h : ∀ v1 v2 H, W.I g H → RelS K W.N H v1 s1 → RelS K W.N H v2 s2 → ∀ Q : VK, (∀ v, RelS K W.N H v s → Q v H) → rc [v1, v2] H Q) : RcS K W rc [s1, s2] g (is s g) :=
  fun vs H i rs R q => by
    cases rs with
    | cons r1 rr =>
      cases rr with
      | cons r2 rr =>
        cases rr
        exact h _ _ H i r1 r2 R fun v rv => q v s g H (Stp.refl H) i rv ⟨rfl, rfl⟩
/-- a new list, a new tuple -/
theorem new_lst {H : Hp} {p : Addr} {xs : List V} {ds : List PyData} (i : W.I g H) (hp : H p = none) (hz : xs.length ≤ sizeLine) (h : DaAll K W.N H xs ds) : Da K W.N (upd H p (.lst xs)) (.ref p) (.list ds) :=
  .lst upd_same (fun n => by obtain ⟨o, e⟩ := W.trk i n; rw [hp] at e; cases e) hz (DaAll.stp (g := g) i (Stp.same (Same.new hp)) h)
theorem new_tup {H : Hp} {p : Addr} {xs : List V} {ds : List PyData} (i : W.I g H) (hp : H p = none) (hz : xs.length ≤ sizeLine) (h : DaAll K W.N H xs ds) : Da K W.N (upd H p (.tup xs)) (.ref p) (.tuple ds) :=
  .tup (.inl (.inl upd_same)) hz (DaAll.stp (g := g) i (Stp.same (Same.new hp)) h)
theorem ev_tupS {tA : TA} {PA : List Sl → W.G → Prop} (h : AvS K W tA δ g PA) (k : ∀ ss g1, PA ss g1 → ∃ ds, ss = ds.map .dat ∧ ds.length ≤ sizeLine ∧ P (.dat (.tuple ds)) g1) : EvS K W (tTup tA) δ g P := fun σ H i f R q =>
  h σ H i f _ fun vs ss g1 H1 e1 i1 rs p1 => by
    obtain ⟨ds, rfl, hz, p⟩ := k ss g1 p1
    have hd := RelSs.all rs
    have hl : vs.length ≤ sizeLine := by rw [hd.length]; exact hz
    exact ⟨hl, fun p' hp => q (.ref p') (.dat (.tuple ds)) g1 _ (e1.trans (Stp.same (Same.new hp))) (W.mono i1 (Same.new hp)) (new_tup i1 hp hl hd) p⟩
theorem ev_tup {tA : TA} {ds : List PyData} (h : AvD K W tA δ g ds) (hz : ds.length ≤ sizeLine := by simp only [List.length_cons, List.length_nil]; decide) : EvD K W (tTup tA) δ g (.tuple ds) := ev_tupS h fun ss g1 ⟨a, b⟩ => ⟨ds, a, hz, rfl, b⟩
theorem ev_lstS {tA : TA} {PA : List Sl → W.G → Prop} (h : AvS K W tA δ g PA) (k : ∀ ss g1, PA ss g1 → ∃ ds, ss = ds.map .dat ∧ ds.length ≤ sizeLine ∧ P (.dat (.list ds)) g1) : EvS K W (tLst tA) δ g P := fun σ H i f R q =>
  h σ H i f _ fun vs ss g1 H1 e1 i1 rs p1 => by
    obtain ⟨ds, rfl, hz, p⟩ := k ss g1 p1
    have hd := RelSs.all rs
    have hl : vs.length ≤ sizeLine := by rw [hd.length]; exact hz
    exact ⟨hl, fun p' hp => q (.ref p') (.dat (.list ds)) g1 _ (e1.trans (Stp.same (Same.new hp))) (W.mono i1 (Same.new hp)) (new_lst i1 hp hl hd) p⟩
theorem ev_lst {tA : TA} {ds : List PyData} (h : AvD K W tA δ g ds) (hz : ds.length ≤ sizeLine := by simp only [List.length_cons, List.length_nil]; decide) : EvD K W (tLst tA) δ g (.list ds) := ev_lstS h fun ss g1 ⟨a, b⟩ => ⟨ds, a, hz, rfl, b⟩
/-- + - of ints, their comparisons -/
theorem rv_i0 {f : Int → Int → V} {i j : Int} (h : ∀ H, Da K W.N H (f i j) x) : RvD K W (rI0 f) (.int i) (.int j) g x := RvS.pure fun v1 v2 H _ r1 r2 R q => by
  cases (show Da K W.N H v1 (.int i) from r1)
  cases (show Da K W.N H v2 (.int j) from r2)
  exact ⟨i, j, rfl, rfl, q _ (h H)⟩
theorem rv_i {C : Int → Int → Prop} {f : Int → Int → V} {i j : Int} (hc : C i j) (h : ∀ H, Da K W.N H (f i j) x) : RvD K W (rI C f) (.int i) (.int j) g x := RvS.pure fun v1 v2 H _ r1 r2 R q => by
  cases (show Da K W.N H v1 (.int i) from r1)
  cases (show Da K W.N H v2 (.int j) from r2)
  exact ⟨i, j, rfl, rfl, hc, q _ (h H)⟩
theorem rv_add {i j : Int} : RvD K W (rI0 fun i j => .int (i + j)) (.int i) (.int j) g (.int (i + j)) := rv_i0 fun _ => .int _
theorem rv_sub {i j : Int} : RvD K W (rI0 fun i j => .int (i - j)) (.int i) (.int j) g (.int (i - j)) := rv_i0 fun _ => .int _
theorem rv_lt {i j : Int} : RvD K W (rI0 fun i j => .bl (decide (i < j))) (.int i) (.int j) g (.bool (decide (i < j))) := rv_i0 fun _ => .bl _
theorem rv_le {i j : Int} : RvD K W (rI0 fun i j => .bl (decide (i ≤ j))) (.int i) (.int j) g (.bool (decide (i ≤ j))) := rv_i0 fun _ => .bl _
theorem rv_gt {i j : Int} : RvD K W (rI0 fun i j => .bl (decide (j < i))) (.int i) (.int j) g (.bool (decide (j < i))) := rv_i0 fun _ => .bl _
theorem rv_ge {i j : Int} : RvD K W (rI0 fun i j => .bl (decide (j ≤ i))) (.int i) (.int j) g (.bool (decide (j ≤ i))) := rv_i0 fun _ => .bl _
theorem rv_eqD (hd : SeqAt.shaped d = true) (he : SeqAt.shaped e = true) : RvD K W (rEqD K) d e g (.bool (PyData.eqv d e)) := RvS.pure fun v1 v2 H _ r1 r2 R q => ⟨d, e, Da.dp _ _ (SeqAt.canLay_of_shaped hd) r1, Da.dp _ _ (SeqAt.canLay_of_shaped he) r2, hd, he, q _ (Da.bl _)⟩
theorem rv_neD (hd : SeqAt.shaped d = true) (he : SeqAt.shaped e = true) : RvD K W (rNeD K) d e g (.bool (!PyData.eqv d e)) := RvS.pure fun v1 v2 H _ r1 r2 R q => ⟨d, e, Da.dp _ _ (SeqAt.canLay_of_shaped hd) r1, Da.dp _ _ (SeqAt.canLay_of_shaped he) r2, hd, he, q _ (Da.bl _)⟩
/-- items -/
def atD : PyData → Int → Option PyData
  | .list ds, i => atI ds i
  | .tuple ds, i => atI ds i
  | .str z, i => (atI z.cps.toList i).map fun c => .str ⟨#[c]⟩
  | _, _ => none
theorem atI_da {N : Addr → Prop} {H : Hp} {vs : List V} {ds : List PyData} {i : Int} (h : DaAll K N H vs ds) (e : atI ds i = some d) : ∃ v, atI vs i = some v ∧ Da K N H v d := by
  unfold atI at e ⊢
  rw [h.length]
  cases q : ixN ds.length i with
  | none => rw [q] at e; cases e
  | some j =>
    rw [q] at e
    exact h.get (i := j) e
theorem rv_ix {i : Int} (h : atD d i = some e) (hz : ∀ z, d = .str z → z.length ≤ sizeLine := by intro z h; cases h) : RvD K W (rIx K) d (.int i) g e := RvS.pure fun v1 v2 H j r1 r2 R q => by
  cases (show Da K W.N H v2 (.int i) from r2)
  have r1' : Da K W.N H v1 d := r1
  cases r1' with
  | lst a n z t =>
    obtain ⟨v, e1, e2⟩ := atI_da t h
    exact Or.inl ⟨_, _, i, v, rfl, rfl, SqL.of a, e1, q v e2⟩
  | tup a z t =>
    obtain ⟨v, e1, e2⟩ := atI_da t h
    exact Or.inr (Or.inl ⟨_, _, i, v, rfl, rfl, a, e1, q v e2⟩)
  | str z =>
    have h' : (atI z.cps.toList i).map (fun c => PyData.str ⟨#[c]⟩) = some e := h
    cases hc : atI z.cps.toList i with
    | none => rw [hc] at h'; cases h'
    | some c =>
      rw [hc] at h'
      cases h'
      exact Or.inr (Or.inr ⟨z, i, c, rfl, rfl, hz z rfl, hc, q _ (Da.str _)⟩)
  | non => cases h
  | bl b => cases h
  | int k => cases h
  | dct _ _ _ => cases h
/-- slices of tuples, lists -/
def cutD (xs : List PyData) (lo hi : Option Int) : List PyData := (xs.drop (HT.sIx xs.length 0 lo)).take (HT.sIx xs.length xs.length hi - HT.sIx xs.length 0 lo)
theorem cut_da {N : Addr → Prop} {H : Hp} {vs : List V} {ds : List PyData} {lo hi : Option Int} (h : DaAll K N H vs ds) : DaAll K N H (cutV vs lo hi) (cutD ds lo hi) := by
  unfold cutV cutD
  rw [h.length]
  exact (h.drop _).take _
theorem ov_none : OvS K W tNoPart δ g (fun o g' => o = none ∧ g' = g) := fun σ H i f R q => q none g H (Stp.refl H) i ⟨rfl, rfl⟩
theorem ov_some {i : Int} (h : EvD K W te δ g (.int i)) : OvS K W (tPart te) δ g (fun o g' => o = some i ∧ g' = g) := fun σ H j f R q => h σ H j f _ fun v s g' H' e i' r ⟨a, b⟩ => by
  subst a; subst b
  cases (show Da K W.N H' v (.int i) from r)
  exact ⟨i, rfl, q (some i) _ H' e i' ⟨rfl, rfl⟩⟩
theorem ev_slT {tl th : TO} {ds : List PyData} {lo hi : Option Int} (h : EvD K W te δ g (.tuple ds)) (hl : OvS K W tl δ g (fun o g' => o = lo ∧ g' = g)) (hh : OvS K W th δ g (fun o g' => o = hi ∧ g' = g))
    (hw : ¬ (HT.sIx ds.length 0 lo = 0 ∧ HT.sIx ds.length ds.length hi = ds.length)) : EvD K W (tSl (rSlT K) te tl th) δ g (.tuple (cutD ds lo hi)) := fun σ H i f R q =>
  h σ H i f _ fun v s g1 H1 e1 i1 r1 ⟨a, b⟩ => by
    subst a; subst b
    refine hl σ H1 i1 (f.stp i e1) _ fun o g2 H2 e2 i2 ⟨a2, b2⟩ => ?_
    subst a2; subst b2
    refine hh σ H2 i2 ((f.stp i e1).stp i1 e2) _ fun o3 g3 H3 e3 i3 ⟨a3, b3⟩ => ?_
    subst a3; subst b3
    have r3 : Da K W.N H3 v (.tuple ds) := (RelS.stp (s := .dat (.tuple ds)) i2 e3 (RelS.stp (s := .dat (.tuple ds)) i1 e2 r1))
    cases r3 with
    | tup x z t =>
      refine ⟨_, _, rfl, x, by rw [t.length]; exact hw, fun p hp => ?_⟩
      exact q _ (.dat (.tuple (cutD ds _ _))) _ _ (((e1.trans e2).trans e3).trans (Stp.same (Same.new hp))) (W.mono i3 (Same.new hp)) (new_tup i3 hp (Nat.le_trans (cutV_length _ _ _) z) (cut_da t)) ⟨rfl, rfl⟩
theorem ev_slL {tl th : TO} {ds : List PyData} {lo hi : Option Int} (h : EvD K W te δ g (.list ds)) (hl : OvS K W tl δ g (fun o g' => o = lo ∧ g' = g)) (hh : OvS K W th δ g (fun o g' => o = hi ∧ g' = g)) : EvD K W (tSl (rSlL K) te tl th) δ g (.list (cutD ds lo hi)) := fun σ H i f R q =>
  h σ H i f _ fun v s g1 H1 e1 i1 r1 ⟨a, b⟩ => by
    subst a; subst b
    refine hl σ H1 i1 (f.stp i e1) _ fun o g2 H2 e2 i2 ⟨a2, b2⟩ => ?_
    subst a2; subst b2
    refine hh σ H2 i2 ((f.stp i e1).stp i1 e2) _ fun o3 g3 H3 e3 i3 ⟨a3, b3⟩ => ?_
    subst a3; subst b3
    have r3 : Da K W.N H3 v (.list ds) := (RelS.stp (s := .dat (.list ds)) i2 e3 (RelS.stp (s := .dat (.list ds)) i1 e2 r1))
    cases r3 with
    | lst x n z t =>
      refine ⟨_, _, rfl, SqL.of x, fun p hp => ?_⟩
      exact q _ (.dat (.list (cutD ds _ _))) _ _ (((e1.trans e2).trans e3).trans (Stp.same (Same.new hp))) (W.mono i3 (Same.new hp)) (new_lst i3 hp (Nat.le_trans (cutV_length _ _ _) z) (cut_da t)) ⟨rfl, rfl⟩
/-- t[1:] of a tuple that isn't empty -/
theorem cut_tail (c : PyData) (ds : List PyData) : cutD (c :: ds) (some 1) none = ds := by
  unfold cutD
  have e1 : HT.sIx (c :: ds).length 0 (some 1) = 1 := by
    have := HT.sIx_nat (c :: ds).length 0 1
    simp only [List.length_cons] at this ⊢
    rw [show ((1 : Int)) = ((1 : Nat) : Int) from rfl, this]
    omega
  rw [e1, HT.sIx_none]
  simp
theorem ev_tail {c : PyData} {ds : List PyData} (h : EvD K W te δ g (.tuple (c :: ds))) : EvD K W (tSl (rSlT K) te (tPart (tC (.int 1))) tNoPart) δ g (.tuple ds) := by
  have := ev_slT h (ov_some (ev_int (i := 1))) ov_none (by
    rintro ⟨h1, _⟩
    have := HT.sIx_nat (c :: ds).length 0 1
    rw [show ((1 : Int)) = ((1 : Nat) : Int) from rfl, this] at h1
    simp at h1)
  rw [cut_tail] at this
  exact this
end
end Z
namespace Z
open PySem L2

/-! ### statements -/
structure Po (W : Wd) where
  nx : List Sl → W.G → Prop
  rt : Sl → W.G → Prop
  bk : List Sl → W.G → Prop := fun _ _ => False
  ct : List Sl → W.G → Prop := fun _ _ => False
structure Do (K : PySem.W.Frag) (W : Wd) (P : Po W) (D : Ends) (H : Hp) : Prop where
  nx : ∀ σ' δ' g' H', Stp W H H' → W.I g' H' → Fr K W.N H' σ' δ' → P.nx δ' g' → D.nx σ' H'
  rt : ∀ v s g' H', Stp W H H' → W.I g' H' → RelS K W.N H' v s → P.rt s g' → D.rt v H'
  bk : ∀ σ' δ' g' H', Stp W H H' → W.I g' H' → Fr K W.N H' σ' δ' → P.bk δ' g' → D.bk σ' H'
  ct : ∀ σ' δ' g' H', Stp W H H' → W.I g' H' → Fr K W.N H' σ' δ' → P.ct δ' g' → D.ct σ' H'
def ExS (K : PySem.W.Frag) (W : Wd) (ts : TS) (δ : List Sl) (g : W.G) (P : Po W) : Prop :=
  ∀ D σ H, W.I g H → Fr K W.N H σ δ → Do K W P D H → ts D σ H
/-- a target takes a value -/
def GvS (K : PySem.W.Frag) (W : Wd) (tg : TG) (s : Sl) (δ : List Sl) (g : W.G) (P : List Sl → W.G → Prop) : Prop :=
  ∀ v σ H, W.I g H → RelS K W.N H v s → Fr K W.N H σ δ → ∀ Q : St → Hp → Prop, (∀ σ' δ' g' H', Stp W H H' → W.I g' H' → Fr K W.N H' σ' δ' → P δ' g' → Q σ' H') → tg v σ H Q
def GvSs (K : PySem.W.Frag) (W : Wd) (tg : TGs) (ss : List Sl) (δ : List Sl) (g : W.G) (P : List Sl → W.G → Prop) : Prop :=
  ∀ vs σ H, W.I g H → RelSs K W.N H vs ss → Fr K W.N H σ δ → ∀ Q : St → Hp → Prop, (∀ σ' δ' g' H', Stp W H H' → W.I g' H' → Fr K W.N H' σ' δ' → P δ' g' → Q σ' H') → tg vs σ H Q
section
variable {K : PySem.W.Frag} {W : Wd} {δ : List Sl} {g : W.G} {ta tb te tl : TE} {tt : TT} {t u : TS} {P : Po W} {s : Sl} {H H' : Hp} {D : Ends}
theorem Do.stp (d : Do K W P D H) (e : Stp W H H') : Do K W P D H' :=
  ⟨fun a b c h e' => d.nx a b c h (e.trans e'), fun a b c h e' => d.rt a b c h (e.trans e'), fun a b c h e' => d.bk a b c h (e.trans e'), fun a b c h e' => d.ct a b c h (e.trans e')⟩
theorem ExS.imp {P' : Po W} (h : ExS K W t δ g P) (a : ∀ x y, P.nx x y → P'.nx x y) (b : ∀ x y, P.rt x y → P'.rt x y) (c : ∀ x y, P.bk x y → P'.bk x y) (d : ∀ x y, P.ct x y → P'.ct x y) : ExS K W t δ g P' := fun D σ H i f dd =>
  h D σ H i f ⟨fun σ' δ' g' H' e i' f' p => dd.nx σ' δ' g' H' e i' f' (a _ _ p), fun v s g' H' e i' f' p => dd.rt v s g' H' e i' f' (b _ _ p), fun σ' δ' g' H' e i' f' p => dd.bk σ' δ' g' H' e i' f' (c _ _ p), fun σ' δ' g' H' e i' f' p => dd.ct σ' δ' g' H' e i' f' (d _ _ p)⟩
theorem x_next (h : P.nx δ g) : ExS K W tNext δ g P := fun D σ H i f d => d.nx σ δ g H (Stp.refl H) i f h
theorem x_cont (h : P.ct δ g) : ExS K W tCont δ g P := fun D σ H i f d => d.ct σ δ g H (Stp.refl H) i f h
theorem x_seq (h : ExS K W t δ g { P with nx := fun δ' g' => ExS K W u δ' g' P }) : ExS K W (tSeq t u) δ g P := fun D σ H i f d =>
  h { D with nx := u D } σ H i f ⟨fun σ' δ' g' H' e i' f' p => p D σ' H' i' f' (d.stp e), d.rt, d.bk, d.ct⟩
theorem x_ret (h : EvS K W te δ g P.rt) : ExS K W (tRet te) δ g P := fun D σ H i f d => h σ H i f D.rt fun v s g' H' e i' r p => d.rt v s g' H' e i' r p
theorem x_drop (h : EvS K W te δ g fun _ g' => P.nx δ g') : ExS K W (tDrop te) δ g P := fun D σ H i f d => h σ H i f _ fun v s g' H' e i' r p => d.nx σ δ g' H' e i' (f.stp i e) p
theorem x_asg {i : Nat} (h : EvS K W te δ g fun s g' => P.nx (δ.set i s) g') : ExS K W (tAsg te (gName i)) δ g P := fun D σ H j f d => h σ H j f _ fun v s g' H' e i' r p => d.nx _ (δ.set i s) g' H' e i' ((f.stp j e).set i r) p
theorem x_asgG {tg : TG} (h : EvS K W te δ g fun s g' => GvS K W tg s δ g' P.nx) : ExS K W (tAsg te tg) δ g P := fun D σ H j f d => h σ H j f _ fun v s g' H' e i' r p =>
  p v σ H' i' r (f.stp j e) D.nx fun σ' δ' g2 H2 e2 i2 f2 p2 => d.nx σ' δ' g2 H2 (e.trans e2) i2 f2 p2
theorem x_if (h : TvS K W tt δ g fun b g' => (b = true → ExS K W t δ g' P) ∧ (b = false → ExS K W u δ g' P)) : ExS K W (tIfS tt t u) δ g P := fun D σ H i f d => h σ H i f _ fun b g' H' e i' p => by
  cases b with
  | true =>
    show t D σ H'
    exact p.1 rfl D σ H' i' (f.stp i e) (d.stp e)
  | false =>
    show u D σ H'
    exact p.2 rfl D σ H' i' (f.stp i e) (d.stp e)
theorem x_ifD {b : Bool} (h : TvD K W tt δ g b) (h1 : b = true → ExS K W t δ g P) (h2 : b = false → ExS K W u δ g P) : ExS K W (tIfS tt t u) δ g P := x_if (h.to ⟨h1, h2⟩)
theorem x_never (h : False) : ExS K W t δ g P := h.elim
/-- two names at once from two values -/
theorem x_par {i j : Nat} {tA : TA} (h : AvS K W tA δ g fun ss g' => ∃ s1 s2, ss = [s1, s2] ∧ P.nx ((δ.set i s1).set j s2) g') : ExS K W (tPar i j tA) δ g P := fun D σ H k f d => h σ H k f _ fun vs ss g' H' e i' r ⟨s1, s2, a, p⟩ => by
  subst a
  cases r with
  | cons r1 rr =>
    cases rr with
    | cons r2 rr =>
      cases rr
      exact ⟨_, _, rfl, d.nx _ _ g' H' e i' (((f.stp k e).set i r1).set j r2) p⟩
theorem gs_name {i : Nat} {PG : List Sl → W.G → Prop} (h : PG (δ.set i s) g) : GvS K W (gName i) s δ g PG := fun v σ H i' r f Q q => q _ _ g H (Stp.refl H) i' (f.set _ r) h
theorem gs_nil {PG : List Sl → W.G → Prop} (h : PG δ g) : GvSs K W gNil [] δ g PG := fun vs σ H i r f Q q => by
  cases r
  exact ⟨rfl, q _ _ g H (Stp.refl H) i f h⟩
theorem gs_cons {t1 : TG} {ts : TGs} {ss : List Sl} {PG : List Sl → W.G → Prop} (h : GvS K W t1 s δ g fun δ' g' => GvSs K W ts ss δ' g' PG) : GvSs K W (gCons t1 ts) (s :: ss) δ g PG := fun vs σ H i r f Q q => by
  cases r with
  | cons r1 rr =>
    exact ⟨_, _, rfl, h _ σ H i r1 f _ fun σ' δ' g' H' e i' f' p => p _ σ' H' i' (RelSs.stp i e rr) f' Q fun σ2 δ2 g2 H2 e2 => q σ2 δ2 g2 H2 (e.trans e2)⟩
theorem gs_tup {ts : TGs} {n : Nat} {ds : List PyData} {PG : List Sl → W.G → Prop} (hn : ds.length = n) (h : GvSs K W ts (ds.map .dat) δ g PG) : GvS K W (gTup K n ts) (.dat (.tuple ds)) δ g PG := fun v σ H i r f Q q => by
  have r' : Da K W.N H v (.tuple ds) := r
  cases r' with
  | tup x z tt => exact ⟨_, _, rfl, x, by rw [tt.length, hn], h _ σ H i (RelSs.of tt) f Q q⟩
/-- xs[i] = e, xs a slot's own list: by the world -/
theorem x_asgSub {to ti : TE} {rs : TSet} {P1 P2 P3 : Sl → W.G → Prop} (h1 : EvS K W te δ g P1) (h2 : ∀ s1 g1, P1 s1 g1 → EvS K W to δ g1 fun s2 g2 => EvS K W ti δ g2 fun s3 g3 =>
    ∀ v1 v2 v3 H, W.I g3 H → RelS K W.N H v1 s1 → RelS K W.N H v2 s2 → RelS K W.N H v3 s3 → ∀ Q : Hp → Prop, (∀ g' H', Stp W H H' → W.I g' H' → P.nx δ g' → Q H') → rs v2 v3 v1 H Q) : ExS K W (tAsg te (gSub to ti rs)) δ g P := fun D σ H i f d =>
  h1 σ H i f _ fun v1 s1 g1 H1 e1 i1 r1 p1 => h2 s1 g1 p1 σ H1 i1 (f.stp i e1) _ fun v2 s2 g2 H2 e2 i2 r2 p2 => p2 σ H2 i2 ((f.stp i e1).stp i1 e2) _ fun v3 s3 g3 H3 e3 i3 r3 p3 =>
    p3 v1 v2 v3 H3 i3 ((r1.stp (g := g1) i1 e2).stp (g := g2) i2 e3) (r2.stp (g := g2) i2 e3) r3 _ fun g' H' e' i' p => d.nx σ δ g' H' (((e1.trans e2).trans e3).trans e') i' ((((f.stp i e1).stp i1 e2).stp i2 e3).stp i3 e') p
end

/-! ### loops -/
section
variable {K : PySem.W.Frag} {W : Wd} {δ : List Sl} {g : W.G} {tl te : TE} {tb : TS} {tt : TT} {tg : TG} {P : Po W}
theorem x_forT {ds : List PyData} (h : EvD K W tl δ g (.tuple ds)) (J : Nat → List Sl → W.G → Prop) (h0 : J 0 δ g)
    (hs : ∀ i d δ' g', ds[i]? = some d → J i δ' g' → GvS K W tg (.dat d) δ' g' fun δ2 g2 => ExS K W tb δ2 g2 { P with nx := J (i + 1), ct := J (i + 1), bk := P.nx }) (hd : ∀ δ' g', J ds.length δ' g' → P.nx δ' g') : ExS K W (tFor (iTup K tl) tg tb) δ g P := fun D σ H i f d =>
  h σ H i f _ fun v s g1 H1 e1 i1 r1 ⟨a, b⟩ => by
    subst a; subst b
    have r' : Da K W.N H1 v (.tuple ds) := r1
    cases r' with
    | tup x z t =>
      have keep : ∀ {H2 : Hp}, Stp W H1 H2 → SqT K H2 _ _ := fun e2 => SqT_keep (fun o q m => e2.keep _ o (fun z => m (by have := W.mu i1 z; rw [q] at this; exact this)) q) x
      refine ⟨_, rfl, ⟨_, x⟩, for_tup (K := K) (fun k σ2 H2 => ∃ δ2 g2, Stp W H1 H2 ∧ W.I g2 H2 ∧ Fr K W.N H2 σ2 δ2 ∧ J k δ2 g2) ⟨δ, _, Stp.refl _, i1, f.stp i e1, h0⟩ (fun k σ2 H2 _ ⟨_, _, e2, _⟩ => keep e2) ?_ ?_⟩
      · rintro k y σ2 H2 hk ⟨δ2, g2, e2, i2, f2, j2⟩
        obtain ⟨dd, hdd, rd⟩ := t.getV hk
        have rd2 : Da K W.N H2 y dd := Da.stp (g := _) i1 e2 rd
        refine hs k dd δ2 g2 hdd j2 y σ2 H2 i2 rd2 f2 _ fun σ3 δ3 g3 H3 e3 i3 f3 p3 => ?_
        refine p3 _ σ3 H3 i3 f3 ⟨fun σ4 δ4 g4 H4 e4 i4 f4 j4 => ⟨δ4, g4, (e2.trans e3).trans e4, i4, f4, j4⟩, fun v s g4 H4 e4 => d.rt v s g4 H4 (((e1.trans e2).trans e3).trans e4), fun σ4 δ4 g4 H4 e4 => d.nx σ4 δ4 g4 H4 (((e1.trans e2).trans e3).trans e4), fun σ4 δ4 g4 H4 e4 i4 f4 j4 => ⟨δ4, g4, (e2.trans e3).trans e4, i4, f4, j4⟩⟩
      · rintro σ2 H2 ⟨δ2, g2, e2, i2, f2, j2⟩
        rw [t.length] at j2
        exact d.nx σ2 δ2 g2 H2 (e1.trans e2) i2 f2 (hd δ2 g2 j2)
theorem x_forL {ds : List PyData} (h : EvD K W tl δ g (.list ds)) (J : Nat → List Sl → W.G → Prop) (h0 : J 0 δ g)
    (hs : ∀ i d δ' g', ds[i]? = some d → J i δ' g' → GvS K W tg (.dat d) δ' g' fun δ2 g2 => ExS K W tb δ2 g2 { P with nx := J (i + 1), ct := J (i + 1), bk := P.nx }) (hd : ∀ δ' g', J ds.length δ' g' → P.nx δ' g') : ExS K W (tFor (iList K tl) tg tb) δ g P := fun D σ H i f d =>
  h σ H i f _ fun v s g1 H1 e1 i1 r1 ⟨a, b⟩ => by
    subst a; subst b
    have r' : Da K W.N H1 v (.list ds) := r1
    cases r' with
    | lst x n z t =>
      have keep : ∀ {H2 : Hp}, Stp W H1 H2 → SqL K H2 _ _ := fun e2 => SqL.of (e2.keep _ _ (fun m => n (W.sub _ m)) x)
      refine ⟨_, rfl, ⟨_, SqL.of x⟩, for_list (K := K) (fun k σ2 H2 => ∃ δ2 g2, Stp W H1 H2 ∧ W.I g2 H2 ∧ Fr K W.N H2 σ2 δ2 ∧ J k δ2 g2) ⟨δ, _, Stp.refl _, i1, f.stp i e1, h0⟩ (fun k σ2 H2 _ ⟨_, _, e2, _⟩ => keep e2) ?_ ?_⟩
      · rintro k y σ2 H2 hk ⟨δ2, g2, e2, i2, f2, j2⟩
        obtain ⟨dd, hdd, rd⟩ := t.getV hk
        have rd2 : Da K W.N H2 y dd := Da.stp (g := _) i1 e2 rd
        refine hs k dd δ2 g2 hdd j2 y σ2 H2 i2 rd2 f2 _ fun σ3 δ3 g3 H3 e3 i3 f3 p3 => ?_
        refine p3 _ σ3 H3 i3 f3 ⟨fun σ4 δ4 g4 H4 e4 i4 f4 j4 => ⟨δ4, g4, (e2.trans e3).trans e4, i4, f4, j4⟩, fun v s g4 H4 e4 => d.rt v s g4 H4 (((e1.trans e2).trans e3).trans e4), fun σ4 δ4 g4 H4 e4 => d.nx σ4 δ4 g4 H4 (((e1.trans e2).trans e3).trans e4), fun σ4 δ4 g4 H4 e4 i4 f4 j4 => ⟨δ4, g4, (e2.trans e3).trans e4, i4, f4, j4⟩⟩
      · rintro σ2 H2 ⟨δ2, g2, e2, i2, f2, j2⟩
        rw [t.length] at j2
        exact d.nx σ2 δ2 g2 H2 (e1.trans e2) i2 f2 (hd δ2 g2 j2)
theorem x_forR {tA : TA} {n : Int} (h : AvS K W tA δ g (isA [.dat (.int n)] g)) (hn : -(2 ^ 62) ≤ n ∧ n < 2 ^ 62) (J : Nat → List Sl → W.G → Prop) (h0 : J 0 δ g)
    (hs : ∀ i δ' g', i < n.toNat → J i δ' g' → GvS K W tg (.dat (.int (i : Int))) δ' g' fun δ2 g2 => ExS K W tb δ2 g2 { P with nx := J (i + 1), ct := J (i + 1), bk := P.nx }) (hd : ∀ δ' g', J n.toNat δ' g' → P.nx δ' g') : ExS K W (tFor (iRng1 tA) tg tb) δ g P := fun D σ H i f d =>
  h σ H i f _ fun vs ss g1 H1 e1 i1 rs ⟨a, b⟩ => by
    subst a; subst b
    cases rs with
    | cons r1 rr =>
      cases rr
      cases (show Da K W.N H1 _ (.int n) from r1)
      refine ⟨n, rfl, hn.1, hn.2, for_range (lo := 0) (n := n.toNat) (fun k σ2 H2 => ∃ δ2 g2, Stp W H1 H2 ∧ W.I g2 H2 ∧ Fr K W.N H2 σ2 δ2 ∧ J k δ2 g2) ⟨δ, _, Stp.refl _, i1, f.stp i e1, h0⟩ ?_ ?_⟩
      · rintro k σ2 H2 hk ⟨δ2, g2, e2, i2, f2, j2⟩
        have rd2 : Da K W.N H2 (.int (0 + (k : Int))) (.int (k : Int)) := by rw [Int.zero_add]; exact .int _
        refine hs k δ2 g2 hk j2 _ σ2 H2 i2 rd2 f2 _ fun σ3 δ3 g3 H3 e3 i3 f3 p3 => ?_
        refine p3 _ σ3 H3 i3 f3 ⟨fun σ4 δ4 g4 H4 e4 i4 f4 j4 => ⟨δ4, g4, (e2.trans e3).trans e4, i4, f4, j4⟩, fun v s g4 H4 e4 => d.rt v s g4 H4 (((e1.trans e2).trans e3).trans e4), fun σ4 δ4 g4 H4 e4 => d.nx σ4 δ4 g4 H4 (((e1.trans e2).trans e3).trans e4), fun σ4 δ4 g4 H4 e4 i4 f4 j4 => ⟨δ4, g4, (e2.trans e3).trans e4, i4, f4, j4⟩⟩
      · rintro σ2 H2 ⟨δ2, g2, e2, i2, f2, j2⟩
        exact d.nx σ2 δ2 g2 H2 (e1.trans e2) i2 f2 (hd δ2 g2 j2)

/-! ### comprehensions -/
theorem wipe_at (σ : St) : ∀ (vs : List Nat) (i : Nat), (wipe σ vs)[i]? = if i ∈ vs ∧ i < σ.length then some none else σ[i]?
  | [], i => by simp [wipe]
  | v :: vs, i => by
    unfold wipe
    by_cases e : v = i
    · subst e
      by_cases hl : v < σ.length
      · rw [List.getElem?_set_self (by rw [wipe_length]; exact hl), if_pos ⟨List.mem_cons_self, hl⟩]
      · rw [List.getElem?_eq_none (by rw [List.length_set, wipe_length]; omega), if_neg fun z => hl z.2, List.getElem?_eq_none (by omega)]
    · rw [List.getElem?_set_ne e, wipe_at σ vs i]
      have : (i ∈ v :: vs) ↔ (i ∈ vs) := by
        rw [List.mem_cons]
        exact ⟨fun z => z.elim (fun q => absurd q.symm e) id, .inr⟩
      simp only [this]
theorem wipe_set {σ : St} {vs : List Nat} {j : Nat} {x : Option V} (hj : j ∈ vs) : wipe (σ.set j x) vs = wipe σ vs := by
  apply List.ext_getElem?
  intro i
  rw [wipe_at, wipe_at, List.length_set]
  by_cases e : j = i
  · subst e
    by_cases hl : j < σ.length
    · rw [if_pos ⟨hj, hl⟩, if_pos ⟨hj, hl⟩]
    · rw [if_neg fun z => hl z.2, if_neg fun z => hl z.2, List.getElem?_eq_none (by rw [List.length_set]; omega), List.getElem?_eq_none (by omega)]
  · rw [List.getElem?_set_ne e]
theorem wipe_idem {σ : St} {vs : List Nat} : wipe (wipe σ vs) vs = wipe σ vs := by
  apply List.ext_getElem?
  intro i
  rw [wipe_at, wipe_at, wipe_length]
  split
  · rfl
  · rfl
/-- a comprehension's target takes a value -/
def CgS (K : PySem.W.Frag) (W : Wd) (tg : TG) (vs : List Nat) (s : Sl) (δ : List Sl) (g : W.G) (P : List Sl → W.G → Prop) : Prop :=
  ∀ v σ H, W.I g H → RelS K W.N H v s → Fr K W.N H (wipe σ vs) δ → ∀ Q : St → Hp → Prop, (∀ σ' δ' g' H', Stp W H H' → W.I g' H' → Fr K W.N H' σ' δ' → wipe σ' vs = wipe σ vs → P δ' g' → Q σ' H') → tg v (wipe σ vs) H Q
theorem cg_name {vs : List Nat} {s : Sl} {j : Nat} {PG : List Sl → W.G → Prop} (hj : j ∈ vs) (h : PG (δ.set j s) g) : CgS K W (gName j) vs s δ g PG := fun v σ H i r f Q q =>
  q _ _ g H (Stp.refl H) i (f.set j r) (by rw [wipe_set hj, wipe_idem]) h
theorem cg_pair {vs : List Nat} {j k : Nat} {d1 d2 : PyData} {PG : List Sl → W.G → Prop} (hj : j ∈ vs) (hk : k ∈ vs) (h : PG ((δ.set j (.dat d1)).set k (.dat d2)) g) : CgS K W (gTup K 2 (gCons (gName j) (gCons (gName k) gNil))) vs (.dat (.tuple [d1, d2])) δ g PG := fun v σ H i r f Q q => by
  have r' : Da K W.N H v (.tuple [d1, d2]) := r
  cases r' with
  | tup x z tt =>
    cases tt with
    | cons r1 rr =>
      cases rr with
      | cons r2 rr =>
        cases rr
        refine ⟨_, _, rfl, x, rfl, _, _, rfl, _, _, rfl, rfl, ?_⟩
        exact q _ _ g H (Stp.refl H) i ((f.set (s := .dat d1) j r1).set (s := .dat d2) k r2) (by rw [wipe_set hk, wipe_set hj, wipe_idem]) h
/-- the body of a turn -/
def LcTurn (K : PySem.W.Frag) (W : Wd) (tg : TG) (tt : TT) (te : TE) (vs : List Nat) (δ : List Sl) (s : Sl) (g : W.G) (J1 : List PyData → W.G → Prop) (acc : List PyData) : Prop :=
  CgS K W tg vs s δ g fun δ2 g2 => TvS K W tt δ2 g2 fun b g3 => (b = true → EvS K W te δ2 g3 fun s g4 => ∃ e, s = .dat e ∧ nol e = true ∧ J1 (acc ++ [e]) g4) ∧ (b = false → J1 acc g3)
/-- what stands at the new list, meanwhile -/
def LcAt (K : PySem.W.Frag) (W : Wd) (H1 : Hp) (D : Addr) (n : Nat) (J : List PyData → W.G → Prop) (H2 : Hp) : Prop :=
  ∃ acc xs g2, Stp W H1 H2 ∧ W.I g2 H2 ∧ H2 D = some (.lst xs) ∧ DaAll K W.N H2 xs acc ∧ nols acc = true ∧ acc.length ≤ n ∧ J acc g2
theorem lc_turn {vs : List Nat} {σ : St} {H1 H2 : Hp} {D : Addr} {n : Nat} {x : V} {s : Sl} {g1 : W.G} {J0 J1 : List PyData → W.G → Prop} (hD : H1 D = none) (i1 : W.I g1 H1) (f1 : Fr K W.N H1 σ δ) (hn : n < sizeLine)
    (r : ∀ {H2 : Hp}, Stp W H1 H2 → RelS K W.N H2 x s) (body : ∀ acc g2, acc.length ≤ n → J0 acc g2 → LcTurn K W tg tt te vs (wipeS δ vs) s g2 J1 acc) (h : LcAt K W H1 D n J0 H2) :
    tg x (wipe σ vs) H2 fun σ2 H3 => wipe σ2 vs = wipe σ vs ∧ tt σ2 H3 fun b H4 => if b = true then te σ2 H4 fun y H5 => ∃ acc, H5 D = some (.lst acc) ∧ acc.length < sizeLine ∧ LcAt K W H1 D (n + 1) J1 (upd H5 D (.lst (acc ++ [y]))) else LcAt K W H1 D (n + 1) J1 H4 := by
  obtain ⟨acc, xs, g2, e2, i2, hx, da, hnl, hl, j⟩ := h
  have nM : ¬ W.M D := fun m => by
    have := W.mu i1 m
    rw [hD] at this
    exact this
  have nN : ¬ W.N D := fun m => by
    obtain ⟨o, q⟩ := W.trk i1 m
    rw [hD] at q
    cases q
  have stands : ∀ {H' : Hp}, Stp W H2 H' → H' D = some (.lst xs) := fun e => e.keep D _ nM hx
  refine body acc g2 hl j x σ H2 i2 (r e2) ((f1.stp i1 e2).wipe vs) _ fun σ3 δ3 g3 H3 e3 i3 f3 hw p3 => ⟨hw, ?_⟩
  refine p3 σ3 H3 i3 f3 _ fun b g4 H4 e4 i4 p4 => ?_
  cases b with
  | false =>
    show LcAt K W H1 D (n + 1) J1 H4
    exact ⟨acc, xs, g4, (e2.trans e3).trans e4, i4, stands (e3.trans e4), DaAll.stp i2 (e3.trans e4) da, hnl, Nat.le_succ_of_le hl, p4.2 rfl⟩
  | true =>
    show te σ3 H4 fun y H5 => ∃ acc, H5 D = some (.lst acc) ∧ acc.length < sizeLine ∧ LcAt K W H1 D (n + 1) J1 (upd H5 D (.lst (acc ++ [y])))
    refine p4.1 rfl σ3 H4 i4 (f3.stp i3 e4) _ fun y s5 g5 H5 e5 i5 r5 ⟨e, es, en, j5⟩ => ?_
    subst es
    have e25 := (e3.trans e4).trans e5
    have st5 := stands e25
    have hnt : ∀ a o, H5 a = some o → ¬ Mu (some o) → upd H5 D (.lst (xs ++ [y])) a = some o := fun a o q m => by
      rw [upd_ne (fun z => by subst z; rw [st5] at q; cases q; exact m trivial)]
      exact q
    refine ⟨xs, st5, by rw [da.length]; omega, acc ++ [e], xs ++ [y], g5, ?_, W.loc i5 (fun a m => upd_ne fun z => nN (z ▸ m)) hnt, upd_same, ?_, ?_, by rw [List.length_append]; simp; omega, j5⟩
    · exact ⟨fun a o m q => by
        rw [upd_ne (ne_of_none q hD)]
        exact ((e2.trans e25)).keep a o m q, fun a o q => by
        rw [upd_ne (ne_of_none q hD)]
        exact (e2.trans e25).there a o q⟩
    · exact (DaAll.nolk hnt _ _ hnl (DaAll.stp i2 e25 da)).append (.one (Da.nolk hnt _ _ en r5))
    · rw [nols_append, hnl]
      simp [nols, en]
theorem lc_start {H1 : Hp} {D : Addr} {g1 : W.G} {J : List PyData → W.G → Prop} (hD : H1 D = none) (i1 : W.I g1 H1) (j : J [] g1) : LcAt K W H1 D 0 J (upd H1 D (.lst [])) :=
  ⟨[], [], g1, Stp.same (Same.new hD), W.mono i1 (Same.new hD), upd_same, .nil, rfl, Nat.le_refl _, j⟩
theorem lc_end {H1 H2 : Hp} {D : Addr} {n : Nat} {g1 : W.G} {J : List PyData → W.G → Prop} {P : Sl → W.G → Prop} {Q : VK} (hD : H1 D = none) (i1 : W.I g1 H1) (hn : n ≤ sizeLine) (k : ∀ acc g2, acc.length ≤ n → nols acc = true → J acc g2 → P (.dat (.list acc)) g2)
    (q : ∀ v s g' H', Stp W H1 H' → W.I g' H' → RelS K W.N H' v s → P s g' → Q v H') (h : LcAt K W H1 D n J H2) : Q (.ref D) H2 := by
  obtain ⟨acc, xs, g2, e2, i2, hx, da, hnl, hl, j⟩ := h
  have nN : ¬ W.N D := fun m => by
    obtain ⟨o, q⟩ := W.trk i1 m
    rw [hD] at q
    cases q
  exact q _ (.dat (.list acc)) g2 H2 e2 i2 (.lst hx nN (by rw [da.length]; omega) da) (k acc g2 hl hnl j)
theorem ev_lcT {ds : List PyData} {vs : List Nat} {P : Sl → W.G → Prop} (h : EvD K W tl δ g (.tuple ds)) (J : Nat → List PyData → W.G → Prop) (h0 : J 0 [] g)
    (hs : ∀ i d acc g', ds[i]? = some d → acc.length ≤ i → J i acc g' → LcTurn K W tg tt te vs (wipeS δ vs) (.dat d) g' (J (i + 1)) acc)
    (hd : ∀ acc g', acc.length ≤ ds.length → nols acc = true → J ds.length acc g' → P (.dat (.list acc)) g') : EvS K W (tLc (iTup K tl) tg tt te vs) δ g P := fun σ H i f Q q =>
  h σ H i f _ fun v s g1 H1 e1 i1 r1 ⟨a, b⟩ => by
    subst a; subst b
    have r' : Da K W.N H1 v (.tuple ds) := r1
    cases r' with
    | tup x z t =>
      have keep : ∀ {H2 : Hp}, Stp W H1 H2 → SqT K H2 _ _ := fun e2 => SqT_keep (fun o q m => e2.keep _ o (fun z => m (by have := W.mu i1 z; rw [q] at this; exact this)) q) x
      have hz := t.length
      refine ⟨_, rfl, ⟨_, x⟩, fun D hD => lc_tup (K := K) (fun k H2 => LcAt K W H1 D k (J k) H2) (lc_start hD i1 h0) (fun k H2 _ ⟨_, _, _, e2, _⟩ => keep e2) (fun k y H2 hk p => ?_) fun H2 p => ?_⟩
      · obtain ⟨dd, hdd, rd⟩ := t.getV hk
        have hkl := (List.getElem?_eq_some_iff.mp hk).1
        exact lc_turn hD i1 (f.stp i e1) (by omega) (fun e2 => RelS.stp (s := .dat dd) i1 e2 rd) (fun acc g2 hl j => hs k dd acc g2 hdd hl j) p
      · exact lc_end hD i1 z (fun acc g2 hl hn j => hd acc g2 (by omega) hn (by rw [← hz]; exact j)) (fun v s g' H' e' => q v s g' H' (e1.trans e')) p
theorem ev_lcL {ds : List PyData} {vs : List Nat} {P : Sl → W.G → Prop} (h : EvD K W tl δ g (.list ds)) (J : Nat → List PyData → W.G → Prop) (h0 : J 0 [] g)
    (hs : ∀ i d acc g', ds[i]? = some d → acc.length ≤ i → J i acc g' → LcTurn K W tg tt te vs (wipeS δ vs) (.dat d) g' (J (i + 1)) acc)
    (hd : ∀ acc g', acc.length ≤ ds.length → nols acc = true → J ds.length acc g' → P (.dat (.list acc)) g') : EvS K W (tLc (iList K tl) tg tt te vs) δ g P := fun σ H i f Q q =>
  h σ H i f _ fun v s g1 H1 e1 i1 r1 ⟨a, b⟩ => by
    subst a; subst b
    have r' : Da K W.N H1 v (.list ds) := r1
    cases r' with
    | lst x n z t =>
      have keep : ∀ {H2 : Hp}, Stp W H1 H2 → SqL K H2 _ _ := fun e2 => SqL.of (e2.keep _ _ (fun m => n (W.sub _ m)) x)
      have hz := t.length
      refine ⟨_, rfl, ⟨_, SqL.of x⟩, fun D hD => lc_list (K := K) (fun k H2 => LcAt K W H1 D k (J k) H2) (lc_start hD i1 h0) (fun k H2 _ ⟨_, _, _, e2, _⟩ => keep e2) (fun k y H2 hk p => ?_) fun H2 p => ?_⟩
      · obtain ⟨dd, hdd, rd⟩ := t.getV hk
        have hkl := (List.getElem?_eq_some_iff.mp hk).1
        exact lc_turn hD i1 (f.stp i e1) (by omega) (fun e2 => RelS.stp (s := .dat dd) i1 e2 rd) (fun acc g2 hl j => hs k dd acc g2 hdd hl j) p
      · exact lc_end hD i1 z (fun acc g2 hl hn j => hd acc g2 (by omega) hn (by rw [← hz]; exact j)) (fun v s g' H' e' => q v s g' H' (e1.trans e')) p
theorem ev_lcR {tA : TA} {n : Int} {vs : List Nat} {P : Sl → W.G → Prop} (h : AvS K W tA δ g (isA [.dat (.int n)] g)) (hn : 0 ≤ n ∧ n ≤ 100000) (J : Nat → List PyData → W.G → Prop) (h0 : J 0 [] g)
    (hs : ∀ i acc g', i < n.toNat → acc.length ≤ i → J i acc g' → LcTurn K W tg tt te vs (wipeS δ vs) (.dat (.int (i : Int))) g' (J (i + 1)) acc)
    (hd : ∀ acc g', acc.length ≤ n.toNat → nols acc = true → J n.toNat acc g' → P (.dat (.list acc)) g') : EvS K W (tLc (iRng1 tA) tg tt te vs) δ g P := fun σ H i f Q q =>
  h σ H i f _ fun vs1 ss g1 H1 e1 i1 rs ⟨a, b⟩ => by
    subst a; subst b
    cases rs with
    | cons r1 rr =>
      cases rr
      cases (show Da K W.N H1 _ (.int n) from r1)
      have hz : n.toNat ≤ sizeLine := Nat.le_trans (show n.toNat ≤ 100000 by omega) (by decide)
      refine ⟨n, rfl, by omega, by omega, fun D hD => lc_range (lo := 0) (n := n.toNat) (fun k H2 => LcAt K W H1 D k (J k) H2) (lc_start hD i1 h0) (fun k H2 hk p => ?_) fun H2 p => ?_⟩
      · exact lc_turn hD i1 (f.stp i e1) (by omega) (s := .dat (.int (k : Int))) (fun {H2} e2 => show Da K W.N H2 (.int (0 + (k : Int))) (.int (k : Int)) by rw [Int.zero_add]; exact .int _) (fun acc g2 hl j => hs k acc g2 hk hl j) p
      · exact lc_end hD i1 hz (fun acc g2 hl hn j => hd acc g2 hl hn j) (fun v s g' H' e' => q v s g' H' (e1.trans e')) p
theorem tv_yes : TvD K W tYes δ g true := fun σ H i f Q q => q true g H (Stp.refl H) i ⟨rfl, rfl⟩
/-- each item told by a function, the state stays -/
theorem ev_lcTm {ds : List PyData} {vs : List Nat} (F : PyData → PyData) (h : EvD K W tl δ g (.tuple ds))
    (hs : ∀ d ∈ ds, nol (F d) = true ∧ CgS K W tg vs (.dat d) (wipeS δ vs) g fun δ2 g2 => g2 = g ∧ EvD K W te δ2 g (F d)) : EvD K W (tLc (iTup K tl) tg tYes te vs) δ g (.list (ds.map F)) :=
  ev_lcT h (fun i acc g' => acc = (ds.take i).map F ∧ g' = g) ⟨rfl, rfl⟩ (fun i d acc g' hd _ ⟨ha, hg⟩ => by
    subst hg ha
    obtain ⟨hn, hc⟩ := hs d (List.mem_of_getElem? hd)
    refine fun v σ H i' r f Q q => hc v σ H i' r f Q fun σ' δ' g' H' e i2 f2 hw ⟨hg, he⟩ => q σ' δ' g' H' e i2 f2 hw ?_
    subst hg
    exact tv_yes.to ⟨fun _ => he.to ⟨_, rfl, hn, by rw [List.take_add_one, hd]; simp, rfl⟩, fun z => by cases z⟩) fun acc g' _ _ ⟨ha, hg⟩ => ⟨by rw [ha, List.take_length], hg⟩
theorem ev_lcLm {ds : List PyData} {vs : List Nat} (F : PyData → PyData) (h : EvD K W tl δ g (.list ds))
    (hs : ∀ d ∈ ds, nol (F d) = true ∧ CgS K W tg vs (.dat d) (wipeS δ vs) g fun δ2 g2 => g2 = g ∧ EvD K W te δ2 g (F d)) : EvD K W (tLc (iList K tl) tg tYes te vs) δ g (.list (ds.map F)) :=
  ev_lcL h (fun i acc g' => acc = (ds.take i).map F ∧ g' = g) ⟨rfl, rfl⟩ (fun i d acc g' hd _ ⟨ha, hg⟩ => by
    subst hg ha
    obtain ⟨hn, hc⟩ := hs d (List.mem_of_getElem? hd)
    refine fun v σ H i' r f Q q => hc v σ H i' r f Q fun σ' δ' g' H' e i2 f2 hw ⟨hg, he⟩ => q σ' δ' g' H' e i2 f2 hw ?_
    subst hg
    exact tv_yes.to ⟨fun _ => he.to ⟨_, rfl, hn, by rw [List.take_add_one, hd]; simp, rfl⟩, fun z => by cases z⟩) fun acc g' _ _ ⟨ha, hg⟩ => ⟨by rw [ha, List.take_length], hg⟩
end

/-! ### defs -/
def startS (N : List Str) (ss : List Sl) : List Sl := ss ++ List.replicate (N.length - ss.length) .no
theorem fr_start {K : PySem.W.Frag} {N : Addr → Prop} {H : Hp} {Nm : List Str} {vs : List V} {ss : List Sl} (r : RelSs K N H vs ss) : Fr K N H (L2.start Nm vs) (startS Nm ss) := by
  have hl := Paired.length r
  refine ⟨by unfold L2.start startS; simp [hl], fun i s h n => ?_⟩
  unfold startS at h
  by_cases hi : i < ss.length
  · rw [List.getElem?_append_left hi] at h
    have get : ∀ {vs : List V} {ss : List Sl} {i : Nat} {s : Sl}, RelSs K N H vs ss → ss[i]? = some s → ∃ v, vs[i]? = some v ∧ RelS K N H v s := by
      intro vs ss i s r
      induction r generalizing i with
      | nil => intro h; simp at h
      | cons a t ih =>
        intro h
        cases i with
        | zero =>
          rw [List.getElem?_cons_zero] at h
          cases h
          exact ⟨_, rfl, a⟩
        | succ i => exact ih (by simpa using h)
    obtain ⟨v, hv, rv⟩ := get r h
    refine ⟨v, ?_, rv⟩
    unfold L2.start
    rw [List.getElem?_append_left (by rw [List.length_map]; omega), List.getElem?_map, hv]
    rfl
  · rw [List.getElem?_append_right (by omega), List.getElem?_replicate] at h
    split at h
    · cases h
      exact absurd rfl n
    · cases h
/-- a promise over data: x, what is known ahead -/
def spG (K : PySem.W.Frag) {α : Type} (W : α → Wd) (g : ∀ x, (W x).G) (ar : α → List Sl) (pre : α → Prop) (post : ∀ x, Sl → (W x).G → Prop) : Sp := fun vs H Q _ =>
  ∃ x : α, (W x).I (g x) H ∧ RelSs K (W x).N H vs (ar x) ∧ pre x ∧ ∀ v s g' H', Stp (W x) H H' → (W x).I g' H' → RelS K (W x).N H' v s → post x s g' → Q v H'
/-- nothing changes; N: what the data's lists stand away from -/
def PW (N : Addr → Prop) : Wd where
  G := Unit
  M := fun _ => False
  N := N
  I := fun _ H => ∀ a, N a → ∃ o, H a = some o
  sub := fun _ h => h.elim
  loc := fun i k _ a n => by
    obtain ⟨o, e⟩ := i a n
    exact ⟨o, (k a n).trans e⟩
  trk := fun i n => i _ n
  mu := fun _ h => h.elim
def spP (K : PySem.W.Frag) {β : Type} (ar : β → List Sl) (pre : β → Prop) (post : β → Sl → Prop) : Sp :=
  spG K (α := (Addr → Prop) × β) (fun x => PW x.1) (fun _ => ()) (fun x => ar x.2) (fun x => pre x.2) (fun x s _ => post x.2 s)
section
variable {P : Program} {w : World} {K : PySem.W.Frag} {mg : Str → Option Value} {base : Heap}
theorem fn_okG {α : Type} {W : α → Wd} {g : ∀ x, (W x).G} {ar : α → List Sl} {pre : α → Prop} {post : ∀ x, Sl → (W x).G → Prop} {x qual : Str} {st : Stmt} {f : Addr} {fd : FuncData} {Nm ps : List Str} {k : Nat} (F : Fun K x qual st f fd) (S : FnScope Nm ps (defScope st)) (hl : ∀ x, (ar x).length = ps.length)
    (body : ∀ (cdv : Value) (A : Around) (outer : List Env) (s : Shared) (H : Hp) (E : XK), Room k (A.deeper (PyProof.Rows.envOfC qual (defScope st) s.heap.objs.size f cdv)) → ∀ x, pre x → ∃ t, PSs (cxOf CX0 P w K mg base Nm qual (defScope st) f cdv A outer s H E).nox (defBody st) t ∧
      ExS K (W x) t (startS Nm (ar x)) (g x) { nx := fun _ g' => post x (.dat .none) g', rt := post x }) : FnOk P w K mg base CX0 (k + 1) f fd ps (spG K W g ar pre post) := by
  refine F.ok S (fun vs H Q E ⟨x, _, r, _⟩ => by rw [Paired.length r, hl x]) (fun cdv A outer s H vs Q E hr ⟨x, i, r, p, q⟩ => ?_)
  obtain ⟨t, ht, hx⟩ := body cdv A outer s H E hr x p
  exact ⟨t, ht, hx _ (L2.start Nm vs) H i (fr_start r) ⟨fun σ' δ' g' H' e i' _ p => q .non (.dat .none) g' H' e i' .non p, fun v s g' H' e i' r p => q v s g' H' e i' r p, fun _ _ _ _ _ _ _ z => z.elim, fun _ _ _ _ _ _ _ z => z.elim⟩⟩
theorem fn_okP {β : Type} {ar : β → List Sl} {pre : β → Prop} {post : β → Sl → Prop} {x qual : Str} {st : Stmt} {f : Addr} {fd : FuncData} {Nm ps : List Str} {k : Nat} (F : Fun K x qual st f fd) (S : FnScope Nm ps (defScope st)) (hl : ∀ x, (ar x).length = ps.length)
    (body : ∀ (cdv : Value) (A : Around) (outer : List Env) (s : Shared) (H : Hp) (E : XK), Room k (A.deeper (PyProof.Rows.envOfC qual (defScope st) s.heap.objs.size f cdv)) → ∀ N x, pre x → ∃ t, PSs (cxOf CX0 P w K mg base Nm qual (defScope st) f cdv A outer s H E).nox (defBody st) t ∧
      ExS K (PW N) t (startS Nm (ar x)) () { nx := fun _ g' => post x (.dat .none), rt := fun s _ => post x s }) : FnOk P w K mg base CX0 (k + 1) f fd ps (spP K ar pre post) :=
  fn_okG (α := (Addr → Prop) × β) F S (fun x => hl x.2) fun cdv A outer s H E hr x p => body cdv A outer s H E hr x.1 x.2 p
end
section
variable {K : PySem.W.Frag} {W : Wd} {δ : List Sl} {g : W.G} {P : Sl → W.G → Prop} {E : XK} {tA : TA} {PA : List Sl → W.G → Prop}
/-- a call, by the callee's promise -/
theorem rc_spG {α : Type} {W1 : α → Wd} {g1 : ∀ x, (W1 x).G} {ar : α → List Sl} {pre : α → Prop} {post : ∀ x, Sl → (W1 x).G → Prop} {ss : List Sl} (x : α) (ha : ar x = ss) (hp : pre x) (hN : (W1 x).N = W.N) (hM : ∀ a, (W1 x).M a → W.M a)
    (hi : ∀ H, W.I g H → (W1 x).I (g1 x) H) (ho : ∀ s g' H H', W.I g H → Stp (W1 x) H H' → (W1 x).I g' H' → post x s g' → ∃ g2, W.I g2 H' ∧ P s g2) : RcS K W (fun vs H Q => spG K W1 g1 ar pre post vs H Q E) ss g P := fun vs H i rs Q q =>
  ⟨x, hi H i, by rw [hN, ha]; exact rs, hp, fun v s g' H' e i' r p => by
    obtain ⟨g2, i2, p2⟩ := ho s g' H H' i e i' p
    exact q v s g2 H' ⟨fun a o m z => e.keep a o (fun m' => m (hM a m')) z, e.there⟩ i2 (by rw [← hN]; exact r) p2⟩
theorem rc_spP {β : Type} {ar : β → List Sl} {pre : β → Prop} {post : β → Sl → Prop} {ss : List Sl} (x : β) (ha : ar x = ss) (hp : pre x) (ho : ∀ s, post x s → P s g) : RcS K W (fun vs H Q => spP K ar pre post vs H Q E) ss g P :=
  rc_spG (α := (Addr → Prop) × β) (W.N, x) ha hp rfl (fun _ z => z.elim) (fun H i a n => W.trk i n) fun s g' H H' i e _ p => ⟨g, W.mono i (fun a o z => e.keep a o (fun m => m) z), ho s p⟩
theorem ev_call {sp : Sp} (h : AvS K W tA δ g PA) (hr : ∀ ss g1, PA ss g1 → RcS K W (fun vs H Q => sp vs H Q E) ss g1 P) : EvS K W (tCall sp [] E tA) δ g P := fun σ H i f Q q =>
  h σ H i f _ fun vs ss g1 H1 e1 i1 rs p1 => by
    rw [List.append_nil]
    exact hr ss g1 p1 vs H1 i1 rs Q fun v s g2 H2 e2 i2 r2 p2 => q v s g2 H2 (e1.trans e2) i2 r2 p2
theorem ev_callD {sp : Sp} {ss : List Sl} (h : AvS K W tA δ g (isA ss g)) (hr : RcS K W (fun vs H Q => sp vs H Q E) ss g P) : EvS K W (tCall sp [] E tA) δ g P := ev_call h fun _ _ ⟨a, b⟩ => by subst a; subst b; exact hr
/-- a method's call: the receiver is this very object -/
theorem ev_meth {sp : Sp} {C a : Addr} {m : Str} {te : TE} {ss : List Sl} (hs : EvV K W te δ g (.ref a)) (ho : ∀ H, W.I g H → ∃ dx fs, H a = some (.ins C dx fs) ∧ fs.lookup m = none) (h : AvS K W tA δ g (isA ss g)) (hr : RcS K W (fun vs H Q => sp vs H Q E) (.val (.ref a) :: ss) g P) : EvS K W (tMeth C m sp [] E te tA) δ g P := fun σ H i f Q q =>
  hs σ H i f _ fun v s g1 H1 e1 i1 r1 ⟨b1, b2⟩ => by
    subst b1; subst b2
    cases (show v = V.ref a from r1)
    obtain ⟨dx, fs, ea, el⟩ := ho H1 i1
    refine ⟨a, dx, fs, rfl, ea, el, h σ H1 i1 (f.stp i e1) _ fun vs ss' g2 H2 e2 i2 rs ⟨c1, c2⟩ => ?_⟩
    subst c1; subst c2
    rw [List.append_nil]
    exact hr (.ref a :: vs) H2 i2 (.cons rfl rs) Q fun v s g3 H3 e3 i3 r3 p3 => q v s g3 H3 ((e1.trans e2).trans e3) i3 r3 p3
end
end Z
namespace Z
open PySem L2

/-! ### more equalities of data -/
mutual
/-- without bools, dicts: == is equality -/
def plain : PyData → Bool
  | .bool _ => false
  | .dict _ => false
  | .tuple ds => plains ds
  | .list ds => plains ds
  | _ => true
def plains : List PyData → Bool
  | [] => true
  | d :: ds => plain d && plains ds
end
mutual
theorem eqv_plain : ∀ (d e : PyData), plain d = true → plain e = true → (PyData.eqv d e = true ↔ d = e)
  | .none, e, _, h => by cases e <;> simp [PyData.eqv]
  | .bool _, _, h, _ => by simp [plain] at h
  | .int i, e, _, h => by cases e <;> simp_all [PyData.eqv, plain]
  | .str x, e, _, h => by cases e <;> simp [PyData.eqv]
  | .list ds, e, h, h' => by
    cases e with
    | list es =>
      simp only [PyData.eqv]
      rw [eqv_plains ds es (by simpa [plain] using h) (by simpa [plain] using h')]
      simp
    | bool b => simp [plain] at h'
    | _ => simp [PyData.eqv]
  | .tuple ds, e, h, h' => by
    cases e with
    | tuple es =>
      simp only [PyData.eqv]
      rw [eqv_plains ds es (by simpa [plain] using h) (by simpa [plain] using h')]
      simp
    | bool b => simp [plain] at h'
    | _ => simp [PyData.eqv]
  | .dict _, _, h, _ => by simp [plain] at h
theorem eqv_plains : ∀ (ds es : List PyData), plains ds = true → plains es = true → (PyData.eqvAll ds es = true ↔ ds = es)
  | [], es, _, _ => by cases es <;> simp [PyData.eqvAll]
  | d :: ds, es, h, h' => by
    cases es with
    | nil => simp [PyData.eqvAll]
    | cons e es =>
      have h1 : plain d = true ∧ plains ds = true := by simpa [plains] using h
      have h2 : plain e = true ∧ plains es = true := by simpa [plains] using h'
      simp only [PyData.eqvAll, Bool.and_eq_true]
      rw [eqv_plain d e h1.1 h2.1, eqv_plains ds es h1.2 h2.2]
      simp
end
theorem eqv_refl_plain {d : PyData} (h : plain d = true) : PyData.eqv d d = true := (eqv_plain d d h h).mpr rfl

section
variable {K : PySem.W.Frag} {W : Wd} {δ : List Sl} {g : W.G} {ta tb tc te : TE} {t u : TT} {r : R2} {P Q : Sl → W.G → Prop} {d e x y : PyData} {s : Sl}
/-- isinstance -/
def tyN : PyData → String
  | .none => "NoneType"
  | .bool _ => "bool"
  | .int _ => "int"
  | .str _ => "str"
  | .list _ => "list"
  | .tuple _ => "tuple"
  | .dict _ => "dict"
theorem da_ty {N : Addr → Prop} {H : Hp} {v : V} : ∀ {d : PyData}, Da K N H v d → TyX K H v (.type (tyN d))
  | .none, h => by cases h; exact .base .non
  | .bool _, h => by cases h; exact .base (.bl _)
  | .int _, h => by cases h; exact .base (.int _)
  | .str _, h => by cases h; exact .base (.str _)
  | .list ds, h => by
    cases h with
    | lst a n z t => exact .base (.lst a)
  | .tuple ds, h => by
    cases h with
    | tup a z t =>
      rcases a with (a | ⟨o, a⟩) | ⟨o, its, n, hk, hc, _⟩
      · exact .base (.tup a)
      · exact .fTuple a
      · exact .kTuple hk hc
  | .dict _, h => by
    cases h with
    | dct a n t => exact .base (.dK a)
theorem rc_isi {n : String} {b : Bool} (h : kitB (tyN d) n = some b) : RcS K W (rIsi K) [.dat d, .val (.ty n)] g (is (.dat (.bool b)) g) := RcS.pure2 fun v1 v2 H i r1 r2 Q q =>
  ⟨v1, v2, _, .type n, b, rfl, by cases (show v2 = V.ty n from r2); exact .ty n, da_ty r1, kit_ty h, q _ (Da.bl b)⟩
def isStr : PyData → Bool
  | .str _ => true
  | _ => false
def isTup : PyData → Bool
  | .tuple _ => true
  | _ => false
def isInt : PyData → Bool
  | .int _ => true
  | .bool _ => true
  | _ => false
def isBool : PyData → Bool
  | .bool _ => true
  | _ => false
def isList : PyData → Bool
  | .list _ => true
  | _ => false
theorem kit_str (d : PyData) : kitB (tyN d) "str" = some (isStr d) := by cases d <;> (dsimp only [tyN, isStr]; decide +kernel)
theorem kit_tup (d : PyData) : kitB (tyN d) "tuple" = some (isTup d) := by cases d <;> (dsimp only [tyN, isTup]; decide +kernel)
theorem kit_int (d : PyData) : kitB (tyN d) "int" = some (isInt d) := by cases d <;> (dsimp only [tyN, isInt]; decide +kernel)
theorem kit_bool (d : PyData) : kitB (tyN d) "bool" = some (isBool d) := by cases d <;> (dsimp only [tyN, isBool]; decide +kernel)
theorem kit_list (d : PyData) : kitB (tyN d) "list" = some (isList d) := by cases d <;> (dsimp only [tyN, isList]; decide +kernel)
theorem ev_isStr (h : EvD K W te δ g d) : EvD K W (tCB (rIsi K) (tCons te (tCons (tC (.ty "str")) tNil))) δ g (.bool (isStr d)) := ev_cb2 h ev_cv (rc_isi (kit_str d))
theorem ev_isTup (h : EvD K W te δ g d) : EvD K W (tCB (rIsi K) (tCons te (tCons (tC (.ty "tuple")) tNil))) δ g (.bool (isTup d)) := ev_cb2 h ev_cv (rc_isi (kit_tup d))
theorem ev_isInt (h : EvD K W te δ g d) : EvD K W (tCB (rIsi K) (tCons te (tCons (tC (.ty "int")) tNil))) δ g (.bool (isInt d)) := ev_cb2 h ev_cv (rc_isi (kit_int d))
theorem ev_isBool (h : EvD K W te δ g d) : EvD K W (tCB (rIsi K) (tCons te (tCons (tC (.ty "bool")) tNil))) δ g (.bool (isBool d)) := ev_cb2 h ev_cv (rc_isi (kit_bool d))
theorem ev_isList (h : EvD K W te δ g d) : EvD K W (tCB (rIsi K) (tCons te (tCons (tC (.ty "list")) tNil))) δ g (.bool (isList d)) := ev_cb2 h ev_cv (rc_isi (kit_list d))
/-- len -/
def lenD : PyData → Option Nat
  | .list ds => some ds.length
  | .tuple ds => some ds.length
  | .str z => some z.length
  | _ => none
abbrev rLenC (K : PySem.W.Frag) : List V → Hp → VK → Prop := fun xs H Q => ∃ x n, xs = [x] ∧ LenV K x H n ∧ Q (.int n) H
theorem rc_len {n : Nat} (h : lenD d = some n) (hz : ∀ z, d = .str z → z.length ≤ sizeLine := by intro z h; cases h) : RcS K W (rLenC K) [.dat d] g (is (.dat (.int n)) g) := RcS.pure1 fun v1 H i r1 Q q => by
  have r' : Da K W.N H v1 d := r1
  cases r' with
  | lst a nn z t => exact ⟨_, n, rfl, .inl ⟨_, SqL.of a, by rw [t.length]; exact (Option.some.inj h).symm⟩, q _ (Da.int _)⟩
  | tup a z t => exact ⟨_, n, rfl, .inr ⟨_, a, by rw [t.length]; exact (Option.some.inj h).symm⟩, q _ (Da.int _)⟩
  | str z => exact ⟨_, n, rfl, ⟨hz z rfl, (Option.some.inj h).symm⟩, q _ (Da.int _)⟩
  | non => cases h
  | bl _ => cases h
  | int _ => cases h
  | dct _ _ _ => cases h
theorem ev_len {n : Nat} (hd : EvD K W te δ g d) (h : lenD d = some n) (hz : ∀ z, d = .str z → z.length ≤ sizeLine := by intro z h; cases h) : EvD K W (tCB (rLenC K) (tCons te tNil)) δ g (.int n) := ev_cb1 hd (rc_len h hz)
/-- all, any, sum -/
theorem das_bl {N : Addr → Prop} {H : Hp} : ∀ {bs : List Bool} {xs : List V}, DaAll K N H xs (bs.map .bool) → xs = bs.map V.bl
  | [], _, .nil => rfl
  | b :: bs, _, .cons h t => by cases h; rw [das_bl t]; rfl
theorem das_int {N : Addr → Prop} {H : Hp} : ∀ {ns : List Int} {xs : List V}, DaAll K N H xs (ns.map .int) → xs = ns.map V.int
  | [], _, .nil => rfl
  | b :: bs, _, .cons h t => by cases h; rw [das_int t]; rfl
theorem das_str {N : Addr → Prop} {H : Hp} : ∀ {ns : List Str} {xs : List V}, DaAll K N H xs (ns.map .str) → xs = ns.map V.str
  | [], _, .nil => rfl
  | b :: bs, _, .cons h t => by cases h; rw [das_str t]; rfl
theorem rc_all {bs : List Bool} : RcS K W (rAll K) [.dat (.list (bs.map .bool))] g (is (.dat (.bool (bs.all id))) g) := RcS.pure1 fun v1 H i r1 Q q => by
  have r' : Da K W.N H v1 (.list (bs.map .bool)) := r1
  cases r' with
  | lst a n z t =>
    cases das_bl t
    exact ⟨_, bs, rfl, SqL.of a, q _ (Da.bl _)⟩
theorem rc_any {bs : List Bool} : RcS K W (rAny K) [.dat (.list (bs.map .bool))] g (is (.dat (.bool (bs.any id))) g) := RcS.pure1 fun v1 H i r1 Q q => by
  have r' : Da K W.N H v1 (.list (bs.map .bool)) := r1
  cases r' with
  | lst a n z t =>
    cases das_bl t
    exact ⟨_, bs, rfl, SqL.of a, q _ (Da.bl _)⟩
theorem rc_sum {ns : List Int} : RcS K W (rSum K) [.dat (.list (ns.map .int))] g (is (.dat (.int ns.sum)) g) := RcS.pure1 fun v1 H i r1 Q q => by
  have r' : Da K W.N H v1 (.list (ns.map .int)) := r1
  cases r' with
  | lst a n z t =>
    cases das_int t
    exact ⟨_, ns, rfl, SqL.of a, q _ (Da.int _)⟩
/-- int(..) -/
abbrev rInt1 : List V → Hp → VK → Prop := fun xs H Q => (∃ i, xs = [.int i] ∧ Q (.int i) H) ∨ ∃ k, xs = [.bl k] ∧ Q (.int (if k then 1 else 0)) H
theorem rc_int {i : Int} : RcS K W rInt1 [.dat (.int i)] g (is (.dat (.int i)) g) := RcS.pure1 fun v1 H j r1 Q q => by
  cases (show Da K W.N H v1 (.int i) from r1)
  exact .inl ⟨i, rfl, q _ (Da.int _)⟩
theorem rc_intB {b : Bool} : RcS K W rInt1 [.dat (.bool b)] g (is (.dat (.int (if b then 1 else 0))) g) := RcS.pure1 fun v1 H j r1 Q q => by
  cases (show Da K W.N H v1 (.bool b) from r1)
  exact .inr ⟨b, rfl, q _ (Da.int _)⟩
/-- list(..), tuple(..) -/
abbrev rListC (K : PySem.W.Frag) : List V → Hp → VK → Prop := fun xs H Q => ∃ p ys, xs = [.ref p] ∧ (SqL K H p ys ∨ SqT K H p ys) ∧ ∀ l, H l = none → Q (.ref l) (upd H l (.lst ys))
abbrev rTupC (K : PySem.W.Frag) : List V → Hp → VK → Prop := fun xs H Q => ∃ p ys, xs = [.ref p] ∧ ((SqL K H p ys ∧ ∀ l, H l = none → Q (.ref l) (upd H l (.tup ys))) ∨ (SqT K H p ys ∧ Q (.ref p) H))
theorem rc_listT {ds : List PyData} : RcS K W (rListC K) [.dat (.tuple ds)] g (is (.dat (.list ds)) g) := fun vs H i rs Q q => by
  cases rs with
  | cons r1 rr =>
    cases rr
    have r' : Da K W.N H _ (.tuple ds) := r1
    cases r' with
    | tup a z t => exact ⟨_, _, rfl, .inr a, fun p hp => q (.ref p) (.dat (.list ds)) g _ (Stp.same (Same.new hp)) (W.mono i (Same.new hp)) (new_lst i hp z t) ⟨rfl, rfl⟩⟩
theorem rc_listL {ds : List PyData} : RcS K W (rListC K) [.dat (.list ds)] g (is (.dat (.list ds)) g) := fun vs H i rs Q q => by
  cases rs with
  | cons r1 rr =>
    cases rr
    have r' : Da K W.N H _ (.list ds) := r1
    cases r' with
    | lst a n z t => exact ⟨_, _, rfl, .inl (SqL.of a), fun p hp => q (.ref p) (.dat (.list ds)) g _ (Stp.same (Same.new hp)) (W.mono i (Same.new hp)) (new_lst i hp z t) ⟨rfl, rfl⟩⟩
theorem rc_tupL {ds : List PyData} : RcS K W (rTupC K) [.dat (.list ds)] g (is (.dat (.tuple ds)) g) := fun vs H i rs Q q => by
  cases rs with
  | cons r1 rr =>
    cases rr
    have r' : Da K W.N H _ (.list ds) := r1
    cases r' with
    | lst a n z t => exact ⟨_, _, rfl, .inl ⟨SqL.of a, fun p hp => q (.ref p) (.dat (.tuple ds)) g _ (Stp.same (Same.new hp)) (W.mono i (Same.new hp)) (new_tup i hp z t) ⟨rfl, rfl⟩⟩⟩
/-- texts -/
abbrev rInSign : R2 := fun x y H Q => ∃ (c : Nat) (z : Str), x = .str ⟨#[c]⟩ ∧ y = .str z ∧ Q (.bl (decide (c ∈ z.cps.toList))) H
theorem rv_inSign {c : Nat} {z : Str} : RvD K W rInSign (.str ⟨#[c]⟩) (.str z) g (.bool (decide (c ∈ z.cps.toList))) := RvS.pure fun v1 v2 H i r1 r2 Q q => by
  cases (show Da K W.N H v1 (.str ⟨#[c]⟩) from r1)
  cases (show Da K W.N H v2 (.str z) from r2)
  exact ⟨c, z, rfl, rfl, q _ (Da.bl _)⟩
abbrev rAddStr : R2 := fun x y H Q => ∃ i j, x = .str i ∧ y = .str j ∧ i.length + j.length ≤ sizeLine ∧ Q (.str (i ++ j)) H
theorem rv_addStr {z z' : Str} (h : z.length + z'.length ≤ sizeLine) : RvD K W rAddStr (.str z) (.str z') g (.str (z ++ z')) := RvS.pure fun v1 v2 H i r1 r2 Q q => by
  cases (show Da K W.N H v1 (.str z) from r1)
  cases (show Da K W.N H v2 (.str z') from r2)
  exact ⟨z, z', rfl, rfl, h, q _ (Da.str _)⟩
abbrev rJoin (K : PySem.W.Frag) : V → List V → Hp → VK → Prop := fun x xs H Q => ∃ a p, ∃ ys : List Str, x = .str a ∧ xs = [.ref p] ∧ (SqL K H p (ys.map V.str) ∨ SqT K H p (ys.map V.str)) ∧ (ys.map (·.length)).sum + ys.length * a.length ≤ 16777216 ∧ Q (.str (Txt.join a ys)) H
theorem ev_join {z : Str} {ys : List Str} (ho : EvD K W ta δ g (.str z)) (he : EvD K W te δ g (.list (ys.map .str))) (hz : (ys.map (·.length)).sum + ys.length * z.length ≤ 16777216) : EvD K W (tM1 (rJoin K) ta te) δ g (.str (Txt.join z ys)) := fun σ H i f Q q =>
  ho σ H i f _ fun v s g1 H1 e1 i1 r1 ⟨a, b⟩ => by
    subst a; subst b
    cases (show Da K W.N H1 v (.str z) from r1)
    refine ⟨⟨z, rfl⟩, he σ H1 i1 (f.stp i e1) _ fun v2 s2 g2 H2 e2 i2 r2 ⟨a2, b2⟩ => ?_⟩
    subst a2; subst b2
    have r' : Da K W.N H2 v2 (.list (ys.map .str)) := r2
    cases r' with
    | lst a n z t =>
      cases das_str t
      exact ⟨_, _, ys, rfl, rfl, .inl (SqL.of a), hz, q _ (.dat (.str _)) _ H2 (e1.trans e2) i2 (Da.str _) ⟨rfl, rfl⟩⟩
/-- f-strings -/
theorem ev_fmt {z : Str} (h : EvD K W te δ g (.str z)) (hz : z.length ≤ sizeLine) : EvD K W (tFmt te) δ g (.str z) := fun σ H i f Q q =>
  h σ H i f _ fun v s g1 H1 e1 i1 r1 ⟨a, b⟩ => by
    subst a; subst b
    cases (show Da K W.N H1 v (.str z) from r1)
    exact .inl ⟨z, rfl, hz, q _ (.dat (.str z)) _ H1 e1 i1 (Da.str z) ⟨rfl, rfl⟩⟩
inductive JsD (K : PySem.W.Frag) (W : Wd) (δ : List Sl) (g : W.G) : List TE → Str → Str → Prop
  | nil {acc : Str} : JsD K W δ g [] acc acc
  | cons {t : TE} {ts : List TE} {acc y out : Str} (h : EvD K W t δ g (.str y)) (hz : (acc ++ y).length ≤ sizeLine) (r : JsD K W δ g ts (acc ++ y) out) : JsD K W δ g (t :: ts) acc out
theorem js_run {ts : List TE} {acc out : Str} (h : JsD K W δ g ts acc out) : ∀ σ H, W.I g H → Fr K W.N H σ δ → ∀ Q : Str → Hp → Prop, (∀ H', Stp W H H' → W.I g H' → Q out H') → tJs ts acc σ H Q := by
  induction h with
  | nil => exact fun σ H i f Q q => q H (Stp.refl H) i
  | cons h hz r ih =>
    refine fun σ H i f Q q => h σ H i f _ fun v s g1 H1 e1 i1 r1 ⟨a, b⟩ => ?_
    subst a; subst b
    cases (show Da K W.N H1 v (.str _) from r1)
    exact ⟨_, rfl, hz, ih σ H1 i1 (f.stp i e1) Q fun H' e' i' => q H' (e1.trans e') i'⟩
theorem ev_js {ts : List TE} {out : Str} (h : JsD K W δ g ts Str.empty out) : EvD K W (fun σ H Q => tJs ts Str.empty σ H fun out H1 => Q (.str out) H1) δ g (.str out) := fun σ H i f Q q =>
  js_run h σ H i f _ fun H' e i' => q _ (.dat (.str out)) g H' e i' (Da.str out) ⟨rfl, rfl⟩
/-- in a tuple or list of flat data -/
def flatD : PyData → Bool
  | .none => true
  | .bool _ => true
  | .int _ => true
  | .str _ => true
  | _ => false
theorem flat_v {N : Addr → Prop} {H : Hp} {v : V} : ∀ {d : PyData}, flatD d = true → Da K N H v d → flatV v = true
  | .none, _, h => by cases h; rfl
  | .bool _, _, h => by cases h; rfl
  | .int _, _, h => by cases h; rfl
  | .str _, _, h => by cases h; rfl
  | .list _, h, _ => by cases h
  | .tuple _, h, _ => by cases h
  | .dict _, h, _ => by cases h
theorem flat_vs {N : Addr → Prop} {H : Hp} : ∀ {ds : List PyData} {vs : List V}, ds.all flatD = true → DaAll K N H vs ds → vs.all flatV = true
  | [], _, _, .nil => rfl
  | d :: ds, _, h, .cons a t => by
    have h' : flatD d = true ∧ ds.all flatD = true := by simpa using h
    simp only [List.all_cons, Bool.and_eq_true]
    exact ⟨flat_v h'.1 a, flat_vs h'.2 t⟩
theorem flat_eq {N : Addr → Prop} {H : Hp} {v w : V} : ∀ {d e : PyData}, flatD d = true → flatD e = true → Da K N H v d → Da K N H w e → eqV v w = PyData.eqv d e := fun {d e} h1 h2 a b => by
  cases a <;> first
    | (cases b <;> first
        | (simp only [eqV, PyData.eqv] <;> rfl)
        | (simp [flatD] at h2))
    | (simp [flatD] at h1)
theorem flat_in {N : Addr → Prop} {H : Hp} {v : V} {d : PyData} (hd : flatD d = true) (a : Da K N H v d) : ∀ {ds : List PyData} {vs : List V}, ds.all flatD = true → DaAll K N H vs ds → inV v vs = ds.any fun e => PyData.eqv e d
  | [], _, _, .nil => rfl
  | e :: ds, _, h, .cons b t => by
    have h' : flatD e = true ∧ ds.all flatD = true := by simpa using h
    have ih := flat_in hd a h'.2 t
    unfold inV at ih ⊢
    rw [List.any_cons, List.any_cons, ih, flat_eq h'.1 hd b a]
theorem rv_inF {neg : Bool} {ds : List PyData} (hd : flatD d = true) (hs : ds.all flatD = true) (hy : y = .tuple ds ∨ y = .list ds) : RvD K W (rIn K neg) d y g (.bool (if neg then !(ds.any fun e => PyData.eqv e d) else ds.any fun e => PyData.eqv e d)) := RvS.pure fun v1 v2 H i r1 r2 Q q => by
  have r' : Da K W.N H v2 y := r2
  rcases hy with hy | hy
  · subst hy
    cases r' with
    | tup a z t => exact ⟨_, _, rfl, .inr a, flat_v hd r1, flat_vs hs t, by rw [flat_in hd r1 hs t]; exact q _ (Da.bl _)⟩
  · subst hy
    cases r' with
    | lst a n z t => exact ⟨_, _, rfl, .inl (SqL.of a), flat_v hd r1, flat_vs hs t, by rw [flat_in hd r1 hs t]; exact q _ (Da.bl _)⟩
/-- in a list of data, deep -/
theorem rv_inDL {ds : List PyData} (h1 : SeqAt.shaped d = true) (h2 : SeqAt.shaped (.list ds) = true) : RvD K W (rInD K) d (.list ds) g (.bool (ds.any fun z => PyData.eqv z d)) := RvS.pure fun v1 v2 H i r1 r2 Q q => ⟨d, ds, Da.dp _ _ (SeqAt.canLay_of_shaped h1) r1, Da.dp _ _ (SeqAt.canLay_of_shaped h2) r2, h1, h2, q _ (Da.bl _)⟩
/-- a chain of two comparisons -/
theorem ev_chain {r' : R2} {s1 s2 s3 : Sl} {b c : Bool} (ha : EvS K W ta δ g (is s1 g)) (hb : EvS K W tb δ g (is s2 g)) (h1 : RvS K W r s1 s2 g (is (.dat (.bool b)) g)) (hc : b = true → EvS K W tc δ g (is s3 g)) (h2 : b = true → RvS K W r' s2 s3 g (is (.dat (.bool c)) g)) : EvD K W (tChain r r' ta tb tc) δ g (.bool (b && c)) := fun σ H i f Q q =>
  ha σ H i f _ fun v1 s g1 H1 e1 i1 r1 ⟨a1, b1⟩ => by
    subst a1; subst b1
    refine hb σ H1 i1 (f.stp i e1) _ fun v2 s g2 H2 e2 i2 r2 ⟨a2, b2⟩ => ?_
    subst a2; subst b2
    refine h1 v1 v2 H2 i2 (r1.stp (g := g2) i1 e2) r2 _ fun v3 s g3 H3 e3 i3 r3 ⟨a3, b3⟩ => ?_
    subst a3; subst b3
    cases (show Da K W.N H3 v3 (.bool b) from r3)
    refine ⟨b, rfl, ?_⟩
    cases b with
    | false =>
      show Q (.bl false) H3
      exact q _ (.dat (.bool false)) _ H3 ((e1.trans e2).trans e3) i3 (Da.bl _) ⟨by rw [Bool.false_and], rfl⟩
    | true =>
      refine hc rfl σ H3 i3 (((f.stp i e1).stp i1 e2).stp i2 e3) _ fun v4 s g4 H4 e4 i4 r4 ⟨a4, b4⟩ => ?_
      subst a4; subst b4
      refine h2 rfl v2 v4 H4 i4 ((r2.stp (g := g4) i2 e3).stp (g := g4) i3 e4) r4 Q fun v5 s g5 H5 e5 i5 r5 ⟨a5, b5⟩ => ?_
      subst a5; subst b5
      exact q v5 _ _ H5 ((((e1.trans e2).trans e3).trans e4).trans e5) i5 r5 ⟨by rw [Bool.true_and], rfl⟩
/-- is None -/
theorem ev_notN (h : EvS K W te δ g (is (.dat d) g)) : EvD K W (tNotN te) δ g (.bool (match d with | .none => false | _ => true)) := fun σ H i f Q q =>
  h σ H i f _ fun v s g1 H1 e1 i1 r1 ⟨a, b⟩ => by
    subst a; subst b
    have r' : Da K W.N H1 v d := r1
    refine q _ (.dat (.bool _)) _ H1 e1 i1 ?_ ⟨rfl, rfl⟩
    cases r' <;> exact Da.bl _
theorem ev_isN (h : EvS K W te δ g (is (.dat d) g)) : EvD K W (tIsN te) δ g (.bool (match d with | .none => true | _ => false)) := fun σ H i f Q q =>
  h σ H i f _ fun v s g1 H1 e1 i1 r1 ⟨a, b⟩ => by
    subst a; subst b
    have r' : Da K W.N H1 v d := r1
    refine q _ (.dat (.bool _)) _ H1 e1 i1 ?_ ⟨rfl, rfl⟩
    cases r' <;> exact Da.bl _
/-- list + list; list * int -/
theorem rv_cat {ds es : List PyData} (hz : ds.length + es.length ≤ sizeLine) : RvD K W rCat (.list ds) (.list es) g (.list (ds ++ es)) := fun v1 v2 H i r1 r2 Q q => by
  have r1' : Da K W.N H v1 (.list ds) := r1
  have r2' : Da K W.N H v2 (.list es) := r2
  cases r1' with
  | lst a n z t =>
    cases r2' with
    | lst a' n' z' t' =>
      have hl := hz
      rw [← t.length, ← t'.length] at hl
      exact ⟨_, _, _, _, rfl, rfl, a, a', hl, fun p hp => q (.ref p) (.dat (.list _)) g _ (Stp.same (Same.new hp)) (W.mono i (Same.new hp)) (new_lst i hp (by rw [List.length_append]; exact hl) (t.append t')) ⟨rfl, rfl⟩⟩
/-- a star among the arguments (of a display) -/
theorem av_starL {tr : TA} {ds : List PyData} {ss : List Sl} (h : EvD K W te δ g (.list ds)) (hr : AvS K W tr δ g (isA ss g)) : AvS K W (StX.tStar K te tr) δ g (isA (ds.map .dat ++ ss) g) := fun σ H i f Q q =>
  h σ H i f _ fun v s g1 H1 e1 i1 r1 ⟨a, b⟩ => by
    subst a; subst b
    have r' : Da K W.N H1 v (.list ds) := r1
    cases r' with
    | lst a n z t =>
      refine ⟨_, _, rfl, .inr (SqL.of a), hr σ H1 i1 (f.stp i e1) _ fun vs ss' g2 H2 e2 i2 rs ⟨a2, b2⟩ => ?_⟩
      subst a2; subst b2
      have app : ∀ {xs : List V} {ds : List PyData}, DaAll K W.N H2 xs ds → RelSs K W.N H2 (xs ++ vs) (ds.map Sl.dat ++ ss') := by
        intro xs ds t
        induction ds generalizing xs with
        | nil => cases t; exact rs
        | cons d ds ih =>
          cases t with
          | cons h t => exact .cons h (ih t)
      exact q _ _ _ H2 (e1.trans e2) i2 (app (DaAll.stp i1 e2 t)) ⟨rfl, rfl⟩
end
end Z
/-! terms as data: their form, size, text -/
namespace Z
open PySem L2

abbrev AMP : Str := "&"
abbrev BAR : Str := "|"
theorem AMP_eq : AMP = ⟨#[38]⟩ := by decide +kernel
theorem BAR_eq : BAR = ⟨#[124]⟩ := by decide +kernel
theorem AMP_ne : AMP ≠ BAR := by decide +kernel
def isLetS (z : Str) : Bool := match z.cps.toList with
  | [c] => decide (97 ≤ c ∧ c ≤ 104)
  | _ => false
theorem isLetS_iff {z : Str} : isLetS z = true ↔ ∃ c, z = ⟨#[c]⟩ ∧ 97 ≤ c ∧ c ≤ 104 := by
  obtain ⟨⟨l⟩⟩ := z
  unfold isLetS
  constructor
  · intro h
    match l, h with
    | [c], h => exact ⟨c, rfl, of_decide_eq_true h⟩
  · rintro ⟨c, e, h⟩
    cases e
    exact decide_eq_true h
def isLet : PyData → Bool
  | .str z => isLetS z
  | _ => false
abbrev LETTERS : Str := "abcdefgh"
theorem letters_cps : LETTERS.cps.toList = [97, 98, 99, 100, 101, 102, 103, 104] := by decide +kernel
theorem mem_letters {c : Nat} : c ∈ LETTERS.cps.toList ↔ 97 ≤ c ∧ c ≤ 104 := by
  rw [letters_cps]
  simp only [List.mem_cons, List.not_mem_nil, or_false]
  omega
def isOp (o : Str) : Bool := o == AMP || o == BAR
/-- a term of depth at most n -/
def isT : Nat → PyData → Bool
  | 0, _ => false
  | _ + 1, .str z => isLetS z
  | n + 1, .tuple (.str o :: ps) => isOp o && decide (2 ≤ ps.length) && ps.all (isT n)
  | _, _ => false
mutual
/-- the number of letters -/
def lv : PyData → Nat
  | .tuple ds => lvT ds
  | _ => 1
def lvT : List PyData → Nat
  | [] => 0
  | _ :: ps => lvs ps
def lvs : List PyData → Nat
  | [] => 0
  | p :: ps => lv p + lvs ps
end
theorem lvs_sum : ∀ ps : List PyData, lvs ps = (ps.map lv).sum
  | [] => by simp [lvs]
  | p :: ps => by simp [lvs, lvs_sum ps]
theorem lv_node (c : PyData) (ps : List PyData) : lv (.tuple (c :: ps)) = (ps.map lv).sum := by
  rw [lv, lvT, lvs_sum]
theorem lv_str (z : Str) : lv (.str z) = 1 := by simp [lv]
def meas (n : Nat) (d : PyData) : Nat := if isT n d = true then lv d else 0
def isTerm (d : PyData) : Bool := isT 5 d && decide (lv d ≤ 24)
theorem isT_str {n : Nat} {z : Str} : isT n (.str z) = (decide (0 < n) && isLetS z) := by
  cases n with
  | zero => rfl
  | succ n => simp [isT]
theorem isT_node {n : Nat} {o : Str} {ps : List PyData} : isT (n + 1) (.tuple (.str o :: ps)) = (isOp o && decide (2 ≤ ps.length) && ps.all (isT n)) := by rw [isT]
theorem isT_cases {n : Nat} {d : PyData} (h : isT n d = true) : ∃ m, n = m + 1 ∧ ((∃ z, d = .str z ∧ isLetS z = true) ∨ ∃ o ps, d = .tuple (.str o :: ps) ∧ isOp o = true ∧ 2 ≤ ps.length ∧ ∀ p ∈ ps, isT m p = true) := by
  cases n with
  | zero => simp [isT] at h
  | succ m =>
    refine ⟨m, rfl, ?_⟩
    match d, h with
    | .str z, h => exact .inl ⟨z, rfl, by simpa [isT] using h⟩
    | .tuple (.str o :: ps), h =>
      rw [isT_node] at h
      simp only [Bool.and_eq_true, decide_eq_true_eq, List.all_eq_true] at h
      exact .inr ⟨o, ps, rfl, h.1.1, h.1.2, h.2⟩
    | .none, h => simp [isT] at h
    | .bool _, h => simp [isT] at h
    | .int _, h => simp [isT] at h
    | .list _, h => simp [isT] at h
    | .dict _, h => simp [isT] at h
    | .tuple [], h => simp [isT] at h
    | .tuple (.none :: _), h => simp [isT] at h
    | .tuple (.bool _ :: _), h => simp [isT] at h
    | .tuple (.int _ :: _), h => simp [isT] at h
    | .tuple (.list _ :: _), h => simp [isT] at h
    | .tuple (.tuple _ :: _), h => simp [isT] at h
    | .tuple (.dict _ :: _), h => simp [isT] at h
theorem isT_mk {n : Nat} {o : Str} {ps : List PyData} (ho : isOp o = true) (hl : 2 ≤ ps.length) (h : ∀ p ∈ ps, isT n p = true) : isT (n + 1) (.tuple (.str o :: ps)) = true := by
  rw [isT_node]
  simp only [Bool.and_eq_true, decide_eq_true_eq, List.all_eq_true]
  exact ⟨⟨ho, hl⟩, h⟩
theorem isT_succ : ∀ {n : Nat} {d : PyData}, isT n d = true → isT (n + 1) d = true := by
  intro n
  induction n with
  | zero => intro d h; simp [isT] at h
  | succ n ih =>
    intro d h
    obtain ⟨m, e, h⟩ := isT_cases h
    cases e
    rcases h with ⟨z, rfl, hz⟩ | ⟨o, ps, rfl, h1, h2, h3⟩
    · rw [isT_str]; simp [hz]
    · exact isT_mk h1 h2 fun p hp => ih (h3 p hp)
theorem isT_mono {n m : Nat} {d : PyData} (h : isT n d = true) (hm : n ≤ m) : isT m d = true := by
  induction hm with
  | refl => exact h
  | step _ ih => exact isT_succ ih
theorem sum_pos {f : PyData → Nat} {ps : List PyData} (h : ∀ p ∈ ps, 1 ≤ f p) : ps.length ≤ (ps.map f).sum := by
  induction ps with
  | nil => simp
  | cons p ps ih =>
    have h1 := h p List.mem_cons_self
    have h2 := ih fun q hq => h q (List.mem_cons_of_mem _ hq)
    simp only [List.length_cons, List.map_cons, List.sum_cons]
    omega
theorem lv_pos : ∀ {n : Nat} {d : PyData}, isT n d = true → 1 ≤ lv d := by
  intro n
  induction n with
  | zero => intro d h; simp [isT] at h
  | succ n ih =>
    intro d h
    obtain ⟨m, e, h⟩ := isT_cases h
    cases e
    rcases h with ⟨z, rfl, h⟩ | ⟨o, ps, rfl, h1, h2, h3⟩
    · rw [lv_str]; exact Nat.le_refl _
    · rw [lv_node]
      have := sum_pos (f := lv) fun p hp => ih (h3 p hp)
      omega
theorem le_sum {f : PyData → Nat} {ps : List PyData} {p : PyData} (h : p ∈ ps) : f p ≤ (ps.map f).sum := by
  induction ps with
  | nil => cases h
  | cons q ps ih =>
    simp only [List.map_cons, List.sum_cons]
    rcases List.mem_cons.mp h with rfl | h
    · omega
    · have := ih h
      omega
/-- what measured computes -/
theorem meas_node {n : Nat} {o : Str} {ps : List PyData} (ho : isOp o = true) (hl : 2 ≤ ps.length) : meas (n + 1) (.tuple (.str o :: ps)) = if 0 ∈ ps.map (meas n) then 0 else (ps.map (meas n)).sum := by
  unfold meas
  by_cases h : ∀ p ∈ ps, isT n p = true
  · rw [if_pos (isT_mk ho hl h), lv_node]
    have e : ps.map (fun d => if isT n d = true then lv d else 0) = ps.map lv := List.map_congr_left fun p hp => if_pos (h p hp)
    rw [e, if_neg]
    intro z
    obtain ⟨p, hp, q⟩ := List.mem_map.mp z
    have := lv_pos (h p hp)
    omega
  · have hn : ¬ isT (n + 1) (.tuple (.str o :: ps)) = true := fun z => by
      obtain ⟨m, e, z⟩ := isT_cases z
      cases e
      rcases z with ⟨_, e, _⟩ | ⟨o', ps', e, _, _, z⟩
      · cases e
      · cases e
        exact h z
    rw [if_neg hn]
    have : ∃ p, p ∈ ps ∧ ¬ isT n p = true := by
      refine Classical.byContradiction fun q => h fun p hp => Classical.byContradiction fun r => q ⟨p, hp, r⟩
    obtain ⟨p, hp, hq⟩ := this
    have hm : 0 ∈ ps.map (fun d => if isT n d = true then lv d else 0) := List.mem_map.mpr ⟨p, hp, if_neg hq⟩
    rw [if_pos hm]
theorem meas_le : ∀ {n : Nat} {d : PyData}, meas n d ≤ lv d := fun {n d} => by
  unfold meas
  split
  · exact Nat.le_refl _
  · exact Nat.zero_le _
/-! ### what data may be compared -/
theorem strOk_op {o : Str} (h : isOp o = true) : PyData.canLay0 (.str o) = true := by
  unfold isOp at h
  simp only [Bool.or_eq_true, beq_iff_eq] at h
  rcases h with rfl | rfl <;> decide +kernel
theorem strOk_let {o : Str} (h : isLetS o = true) : PyData.canLay0 (.str o) = true := by
  obtain ⟨c, rfl, h1, h2⟩ := isLetS_iff.mp h
  simp only [PyData.canLay0]
  show (#[c] : Array Nat).all (· < 0x110000) = true
  simp
  omega
theorem canLayAll_mem {ds : List PyData} : PyData.canLayAll0 ds = true ↔ ∀ d ∈ ds, d.canLay0 = true := by
  induction ds with
  | nil => simp [PyData.canLayAll0]
  | cons d ds ih => simp [PyData.canLayAll0, ih]
theorem depthAll_le {ds : List PyData} {n : Nat} : PyData.depthAll ds ≤ n ↔ ∀ d ∈ ds, d.depth ≤ n := by
  induction ds with
  | nil => simp [PyData.depthAll]
  | cons d ds ih => simp only [PyData.depthAll, List.mem_cons, forall_eq_or_imp]; rw [← ih]; omega
theorem plains_mem {ds : List PyData} : plains ds = true ↔ ∀ d ∈ ds, plain d = true := by
  induction ds with
  | nil => simp [plains]
  | cons d ds ih => simp [plains, ih]
/-- fit to be compared: its strings, its depth, == as equality -/
structure Fit (n : Nat) (d : PyData) : Prop where
  lay : d.canLay0 = true
  dep : d.depth ≤ n
  pl : plain d = true
theorem Fit.shaped {n : Nat} {d : PyData} (h : Fit n d) (hn : n ≤ 64) : SeqAt.shaped d = true := by
  unfold SeqAt.shaped
  rw [h.lay, decide_eq_true (Nat.le_trans h.dep hn)]
  rfl
theorem Fit.mono {n m : Nat} {d : PyData} (h : Fit n d) (hm : n ≤ m) : Fit m d := ⟨h.lay, Nat.le_trans h.dep hm, h.pl⟩
theorem Fit.tuple {n : Nat} {ds : List PyData} (h : ∀ d ∈ ds, Fit n d) : Fit (n + 1) (.tuple ds) := by
  refine ⟨?_, ?_, ?_⟩
  · simp only [PyData.canLay0]; exact canLayAll_mem.mpr fun d hd => (h d hd).lay
  · simp only [PyData.depth]; have := depthAll_le.mpr fun d hd => (h d hd).dep; omega
  · simp only [plain]; exact plains_mem.mpr fun d hd => (h d hd).pl
theorem Fit.list {n : Nat} {ds : List PyData} (h : ∀ d ∈ ds, Fit n d) : Fit (n + 1) (.list ds) := by
  refine ⟨?_, ?_, ?_⟩
  · simp only [PyData.canLay0]; exact canLayAll_mem.mpr fun d hd => (h d hd).lay
  · simp only [PyData.depth]; have := depthAll_le.mpr fun d hd => (h d hd).dep; omega
  · simp only [plain]; exact plains_mem.mpr fun d hd => (h d hd).pl
theorem Fit.tupleInv {n : Nat} {ds : List PyData} (h : Fit (n + 1) (.tuple ds)) : ∀ d ∈ ds, Fit n d := fun d hd =>
  ⟨canLayAll_mem.mp (by simpa only [PyData.canLay0] using h.lay) d hd, depthAll_le.mp (by have := h.dep; simp only [PyData.depth] at this; omega) d hd, plains_mem.mp (by simpa only [plain] using h.pl) d hd⟩
theorem Fit.int {n : Nat} (i : Int) : Fit n (.int i) := ⟨rfl, Nat.zero_le _, rfl⟩
theorem Fit.none {n : Nat} : Fit n .none := ⟨rfl, Nat.zero_le _, rfl⟩
theorem Fit.str {n : Nat} {z : Str} (h : PyData.canLay0 (.str z) = true) : Fit n (.str z) := ⟨h, by simp [PyData.depth], rfl⟩
theorem isT_fit : ∀ {n : Nat} {d : PyData}, isT n d = true → Fit n d := by
  intro n
  induction n with
  | zero => intro d h; simp [isT] at h
  | succ n ih =>
    intro d h
    obtain ⟨m, e, h⟩ := isT_cases h
    cases e
    rcases h with ⟨z, rfl, h⟩ | ⟨o, ps, rfl, h1, h2, h3⟩
    · exact Fit.str (strOk_let h)
    · refine Fit.tuple fun d hd => ?_
      rcases List.mem_cons.mp hd with rfl | hd
      · exact Fit.str (strOk_op h1)
      · exact ih (h3 d hd)
theorem fit_eqv {n m : Nat} {d e : PyData} (h : Fit n d) (h' : Fit m e) : PyData.eqv d e = true ↔ d = e := eqv_plain d e h.pl h'.pl
theorem isT_nol : ∀ {n : Nat} {d : PyData}, isT n d = true → nol d = true := by
  intro n
  induction n with
  | zero => intro d h; simp [isT] at h
  | succ n ih =>
    intro d h
    obtain ⟨m, e, h⟩ := isT_cases h
    cases e
    rcases h with ⟨z, rfl, h⟩ | ⟨o, ps, rfl, h1, h2, h3⟩
    · rfl
    · simp only [nol]
      refine nols_mem.mpr fun d hd => ?_
      rcases List.mem_cons.mp hd with rfl | hd
      · rfl
      · exact ih (h3 d hd)
end Z
/-! the text of a term; that two terms of one text are one -/
namespace Z
open PySem L2

abbrev OPN : Str := "("
abbrev CLS : Str := ")"
abbrev SPC : Str := " "
abbrev LES : Str := " < "
/-- a part's text from the text of what it is -/
def wrapd (p : PyData) (z : Str) : Str := if isStr p then z else OPN ++ z ++ CLS
mutual
def tx : PyData → Str
  | .str z => z
  | .tuple ds => txT ds
  | _ => Str.empty
def txT : List PyData → Str
  | [] => Str.empty
  | .str o :: ps => Str.join (SPC ++ o ++ SPC) (txs ps)
  | _ :: _ => Str.empty
def txs : List PyData → List Str
  | [] => []
  | p :: ps => wrapd p (tx p) :: txs ps
end
theorem txs_map : ∀ ps : List PyData, txs ps = ps.map fun p => wrapd p (tx p)
  | [] => by simp [txs]
  | p :: ps => by simp [txs, txs_map ps]
theorem tx_str (z : Str) : tx (.str z) = z := by simp [tx]
theorem tx_node (o : Str) (ps : List PyData) : tx (.tuple (.str o :: ps)) = Str.join (SPC ++ o ++ SPC) (ps.map fun p => wrapd p (tx p)) := by simp [tx, txT, txs_map]
/-- as lists of codes -/
abbrev cl (z : Str) : List Nat := z.cps.toList
theorem cl_app (a b : Str) : cl (a ++ b) = cl a ++ cl b := by
  show (a ++ b).cps.toList = _
  rw [PySem.Str.cps_append, Array.toList_append]
theorem cl_len (a : Str) : (cl a).length = a.length := Array.length_toList
theorem cl_inj {a b : Str} (h : cl a = cl b) : a = b := by
  obtain ⟨⟨l⟩⟩ := a
  obtain ⟨⟨m⟩⟩ := b
  exact congrArg (fun l : List Nat => (⟨⟨l⟩⟩ : Str)) h
theorem cl_opn : cl OPN = [40] := by decide +kernel
theorem cl_cls : cl CLS = [41] := by decide +kernel
theorem cl_spc : cl SPC = [32] := by decide +kernel
theorem cl_les : cl LES = [32, 60, 32] := by decide +kernel
theorem isOp_cl {o : Str} (h : isOp o = true) : cl o = [38] ∨ cl o = [124] := by
  unfold isOp at h
  simp only [Bool.or_eq_true, beq_iff_eq] at h
  rcases h with rfl | rfl
  · exact .inl (by decide +kernel)
  · exact .inr (by decide +kernel)
theorem isLetS_cl {z : Str} (h : isLetS z = true) : ∃ c, cl z = [c] ∧ 97 ≤ c ∧ c ≤ 104 := by
  obtain ⟨c, e, h1, h2⟩ := isLetS_iff.mp h
  exact ⟨c, by rw [e], h1, h2⟩
/-- joined lists -/
def jn (s : List Nat) : List (List Nat) → List Nat
  | [] => []
  | [x] => x
  | x :: y :: r => x ++ s ++ jn s (y :: r)
theorem cl_join (s : Str) : ∀ l : List Str, cl (Str.join s l) = jn (cl s) (l.map cl)
  | [] => rfl
  | [x] => rfl
  | x :: y :: r => by
    show cl (x ++ s ++ Str.join s (y :: r)) = _
    rw [cl_app, cl_app, cl_join s (y :: r)]
    rfl
/-- a part's codes -/
def pc (p : PyData) : List Nat := cl (wrapd p (tx p))
/-- what follows the first part -/
def tailc (s : List Nat) : List PyData → List Nat
  | [] => []
  | p :: ps => s ++ pc p ++ tailc s ps
theorem jn_tail (s : List Nat) : ∀ (p : PyData) (ps : List PyData), jn s ((p :: ps).map pc) = pc p ++ tailc s ps
  | p, [] => by simp [jn, tailc]
  | p, q :: ps => by
    show pc p ++ s ++ jn s ((q :: ps).map pc) = _
    rw [jn_tail s q ps]
    simp [tailc]
theorem cl_node {o : Str} {p : PyData} {ps : List PyData} : cl (tx (.tuple (.str o :: p :: ps))) = pc p ++ tailc (32 :: (cl o ++ [32])) ps := by
  rw [tx_node, cl_join, List.map_map]
  have e : cl (SPC ++ o ++ SPC) = 32 :: (cl o ++ [32]) := by rw [cl_app, cl_app, cl_spc]; rfl
  rw [e]
  exact jn_tail _ p ps
theorem pc_str {z : Str} : pc (.str z) = cl z := by
  unfold pc wrapd
  rw [if_pos (show isStr (.str z) = true from rfl), tx_str]
theorem pc_tup {ds : List PyData} : pc (.tuple ds) = 40 :: (cl (tx (.tuple ds)) ++ [41]) := by
  unfold pc wrapd
  rw [if_neg (by simp [isStr]), cl_app, cl_app, cl_opn, cl_cls]
  rfl
/-- parts end by themselves -/
theorem pc_end : ∀ {n : Nat} {d : PyData}, isT n d = true → ∀ {m : Nat} {e : PyData}, isT m e = true → ∀ {s s' : List Nat}, pc d ++ s = pc e ++ s' → d = e ∧ s = s' := by
  intro n
  induction n with
  | zero => intro d h; simp [isT] at h
  | succ n ih =>
    intro d h m e h' s s' q
    obtain ⟨k, ek, h⟩ := isT_cases h
    cases ek
    obtain ⟨k', ek', h'⟩ := isT_cases h'
    -- what follows a part, up to the closing sign
    have tails : ∀ {sep : List Nat} {c : Nat}, sep ≠ [] → sep.head? = some 32 → ∀ (ps : List PyData), (∀ p ∈ ps, isT n p = true) → ∀ (qs : List PyData), (∀ p ∈ qs, isT k' p = true) → ∀ {t t' : List Nat}, tailc sep ps ++ (41 :: t) = tailc sep qs ++ (41 :: t') → ps = qs ∧ t = t' := by
      intro sep c hne hsep ps
      obtain ⟨r, rfl⟩ : ∃ r, sep = 32 :: r := by
        cases sep with
        | nil => exact absurd rfl hne
        | cons a r => simp at hsep; exact ⟨r, by rw [hsep]⟩
      induction ps with
      | nil =>
        intro _ qs hq t t' z
        cases qs with
        | nil =>
          simp only [tailc, List.nil_append, List.cons.injEq, true_and] at z
          exact ⟨rfl, z⟩
        | cons q qs =>
          simp [tailc] at z
      | cons p ps ih2 =>
        intro hp qs hq t t' z
        cases qs with
        | nil => simp [tailc] at z
        | cons q qs =>
          simp only [tailc, List.append_assoc, List.append_cancel_left_eq] at z
          obtain ⟨e1, z⟩ := ih (hp p List.mem_cons_self) (hq q List.mem_cons_self) z
          obtain ⟨e2, z⟩ := ih2 (fun x hx => hp x (List.mem_cons_of_mem _ hx)) qs (fun x hx => hq x (List.mem_cons_of_mem _ hx)) z
          exact ⟨by rw [e1, e2], z⟩
    rcases h with ⟨z, rfl, hz⟩ | ⟨o, ps, rfl, h1, h2, h3⟩
    · obtain ⟨c, ec, c1, c2⟩ := isLetS_cl hz
      rcases h' with ⟨z', rfl, hz'⟩ | ⟨o', ps', rfl, h1', h2', h3'⟩
      · obtain ⟨c', ec', c1', c2'⟩ := isLetS_cl hz'
        rw [pc_str, pc_str, ec, ec'] at q
        simp only [List.cons_append, List.nil_append, List.cons.injEq] at q
        exact ⟨by rw [cl_inj (ec.trans ((congrArg (fun x => [x]) q.1).trans ec'.symm))], q.2⟩
      · rw [pc_str, pc_tup, ec] at q
        simp only [List.cons_append, List.nil_append, List.cons.injEq] at q
        omega
    · rcases h' with ⟨z', rfl, hz'⟩ | ⟨o', ps', rfl, h1', h2', h3'⟩
      · obtain ⟨c', ec', c1', c2'⟩ := isLetS_cl hz'
        rw [pc_str, pc_tup, ec'] at q
        simp only [List.cons_append, List.nil_append, List.cons.injEq] at q
        omega
      · match ps, ps', h2, h2', h3, h3', q with
        | p1 :: p2 :: pr, q1 :: q2 :: qr, h2, h2', h3, h3', q =>
          rw [pc_tup, pc_tup, cl_node, cl_node] at q
          simp only [List.cons_append, List.append_assoc, List.nil_append, List.cons.injEq, true_and] at q
          obtain ⟨e1, q⟩ := ih (h3 p1 List.mem_cons_self) (h3' q1 List.mem_cons_self) q
          have eo : cl o = cl o' := by
            simp only [tailc, List.append_assoc, List.cons_append, List.cons.injEq, true_and] at q
            rcases isOp_cl h1 with a | a <;> rcases isOp_cl h1' with b | b <;> rw [a, b] at q ⊢ <;> simp at q
          have eo2 := cl_inj eo
          subst eo2
          obtain ⟨e2, q⟩ := tails (sep := 32 :: (cl o ++ [32])) (c := 0) (by simp) rfl (p2 :: pr) (fun x hx => h3 x (List.mem_cons_of_mem _ hx)) (q2 :: qr) (fun x hx => h3' x (List.mem_cons_of_mem _ hx)) q
          exact ⟨by rw [e1, e2], q⟩
/-- two terms of one text are one -/
theorem tx_inj {n m : Nat} {d e : PyData} (h : isT n d = true) (h' : isT m e = true) (q : cl (tx d) = cl (tx e)) : d = e := by
  have key : ∀ {d e : PyData} {n m : Nat}, isT n d = true → isT m e = true → (∃ z, d = .str z) → (∃ ds, e = .tuple ds) → cl (tx d) ≠ cl (tx e) := by
    rintro d e n m h h' ⟨z, rfl⟩ ⟨ds, rfl⟩ q
    obtain ⟨k, _, h⟩ := isT_cases h
    obtain ⟨k', _, h'⟩ := isT_cases h'
    rcases h with ⟨z, ez, hz⟩ | ⟨o, ps, ez, _⟩
    · cases ez
      obtain ⟨c, ec, _, _⟩ := isLetS_cl hz
      rcases h' with ⟨z', ez, _⟩ | ⟨o, ps, ez, h1, h2, h3⟩
      · cases ez
      · cases ez
        match ps, h2, h3, q with
        | p1 :: p2 :: pr, _, h3, q =>
          rw [tx_str, ec, cl_node] at q
          have := congrArg List.length q
          simp [tailc] at this
          have l1 : 1 ≤ (pc p1).length := by
            obtain ⟨_, _, c⟩ := isT_cases (h3 p1 List.mem_cons_self)
            rcases c with ⟨z, rfl, hz⟩ | ⟨o, ps, rfl, _⟩
            · obtain ⟨c, ec, _⟩ := isLetS_cl hz
              rw [pc_str, ec]; simp
            · rw [pc_tup]; simp
          omega
    · cases ez
  obtain ⟨k, _, c⟩ := isT_cases h
  obtain ⟨k', _, c'⟩ := isT_cases h'
  rcases c with ⟨z, rfl, hz⟩ | ⟨o, ps, rfl, h1, h2, h3⟩
  · rcases c' with ⟨z', rfl, hz'⟩ | ⟨o', ps', rfl, h1', h2', h3'⟩
    · rw [tx_str, tx_str] at q
      rw [cl_inj q]
    · exact absurd q (key h h' ⟨_, rfl⟩ ⟨_, rfl⟩)
  · rcases c' with ⟨z', rfl, hz'⟩ | ⟨o', ps', rfl, h1', h2', h3'⟩
    · exact absurd q.symm (key h' h ⟨_, rfl⟩ ⟨_, rfl⟩)
    · exact (pc_end h h' (s := []) (s' := []) (by rw [pc_tup, pc_tup, q])).1
/-- no text bears the sign < -/
theorem pc_noless : ∀ {n : Nat} {d : PyData}, isT n d = true → 60 ∉ pc d ∧ 60 ∉ cl (tx d) := by
  intro n
  induction n with
  | zero => intro d h; simp [isT] at h
  | succ n ih =>
    intro d h
    obtain ⟨k, ek, h⟩ := isT_cases h
    cases ek
    rcases h with ⟨z, rfl, hz⟩ | ⟨o, ps, rfl, h1, h2, h3⟩
    · obtain ⟨c, ec, c1, c2⟩ := isLetS_cl hz
      rw [pc_str, tx_str, ec]
      simp
      omega
    · have tl : ∀ (ps : List PyData), (∀ p ∈ ps, isT n p = true) → 60 ∉ tailc (32 :: (cl o ++ [32])) ps := by
        intro ps
        induction ps with
        | nil => intro _; simp [tailc]
        | cons p ps ih2 =>
          intro hp
          have a := (ih (hp p List.mem_cons_self)).1
          have b := ih2 fun x hx => hp x (List.mem_cons_of_mem _ hx)
          rcases isOp_cl h1 with c | c <;> rw [c] at b ⊢ <;> simp [tailc] <;> exact ⟨a, by simpa using b⟩
      have main : 60 ∉ cl (tx (.tuple (.str o :: ps))) := by
        match ps, h2, h3 with
        | p1 :: pr, _, h3 =>
          rw [cl_node]
          have a := (ih (h3 p1 List.mem_cons_self)).1
          have b := tl pr fun x hx => h3 x (List.mem_cons_of_mem _ hx)
          simp only [List.mem_append, not_or]
          exact ⟨a, b⟩
      refine ⟨?_, main⟩
      rw [pc_tup]
      intro z
      rcases List.mem_cons.mp z with z | z
      · cases z
      · rcases List.mem_append.mp z with z | z
        · exact main z
        · simp at z
/-- the key of a pair -/
def keyOf (l r : PyData) : Str := tx l ++ LES ++ tx r
theorem split60 : ∀ {a b c d : List Nat}, 60 ∉ a → 60 ∉ c → a ++ 60 :: b = c ++ 60 :: d → a = c ∧ b = d
  | [], b, [], d, _, _, q => ⟨rfl, by simpa using q⟩
  | [], b, y :: c, d, _, hc, q => by
    simp only [List.nil_append, List.cons_append, List.cons.injEq] at q
    exact absurd List.mem_cons_self (q.1 ▸ hc)
  | x :: a, b, [], d, ha, _, q => by
    simp only [List.nil_append, List.cons_append, List.cons.injEq] at q
    exact absurd List.mem_cons_self (q.1.symm ▸ ha)
  | x :: a, b, y :: c, d, ha, hc, q => by
    simp only [List.cons_append, List.cons.injEq] at q
    obtain ⟨e1, e2⟩ := split60 (fun z => ha (List.mem_cons_of_mem _ z)) (fun z => hc (List.mem_cons_of_mem _ z)) q.2
    exact ⟨by rw [q.1, e1], e2⟩
theorem key_inj {n m n' m' : Nat} {l r l' r' : PyData} (h1 : isT n l = true) (h2 : isT m r = true) (h3 : isT n' l' = true) (h4 : isT m' r' = true) (q : keyOf l r = keyOf l' r') : l = l' ∧ r = r' := by
  have q' := congrArg cl q
  unfold keyOf at q'
  rw [cl_app, cl_app, cl_app, cl_app, cl_les] at q'
  have a := (pc_noless h1).2
  have b := (pc_noless h3).2
  have e : (cl (tx l) ++ [32]) ++ 60 :: (32 :: cl (tx r)) = (cl (tx l') ++ [32]) ++ 60 :: (32 :: cl (tx r')) := by simpa using q'
  obtain ⟨e1, e2⟩ := split60 (fun z => (List.mem_append.mp z).elim a (by simp)) (fun z => (List.mem_append.mp z).elim b (by simp)) e
  simp only [List.append_cancel_right_eq] at e1
  simp only [List.cons.injEq, true_and] at e2
  exact ⟨tx_inj h1 h3 e1, tx_inj h2 h4 e2⟩
/-! ### lengths -/
theorem tailc_len {o : Str} (h : isOp o = true) : ∀ ps : List PyData, (tailc (32 :: (cl o ++ [32])) ps).length = (ps.map fun p => (pc p).length).sum + 3 * ps.length
  | [] => rfl
  | p :: ps => by
    have hl : (cl o).length = 1 := by rcases isOp_cl h with a | a <;> rw [a] <;> rfl
    simp only [tailc, List.length_append, List.length_cons, List.length_nil, List.map_cons, List.sum_cons, tailc_len h ps]
    omega
theorem sum_le {f g : PyData → Nat} : ∀ {ps : List PyData}, (∀ p ∈ ps, f p ≤ g p) → (ps.map f).sum ≤ (ps.map g).sum
  | [], _ => Nat.le_refl _
  | p :: ps, h => by
    have a := h p List.mem_cons_self
    have b := sum_le (ps := ps) fun x hx => h x (List.mem_cons_of_mem _ hx)
    simp only [List.map_cons, List.sum_cons]
    omega
theorem sum_add {f : PyData → Nat} {c : Nat} : ∀ {ps : List PyData}, (ps.map fun p => f p + c).sum = (ps.map f).sum + c * ps.length
  | [] => rfl
  | p :: ps => by
    simp only [List.map_cons, List.sum_cons, List.length_cons, sum_add (ps := ps)]
    rw [Nat.mul_succ]
    omega
theorem sum_mul {f : PyData → Nat} {c : Nat} : ∀ {ps : List PyData}, (ps.map fun p => c * f p).sum = c * (ps.map f).sum
  | [] => by simp
  | p :: ps => by
    simp only [List.map_cons, List.sum_cons, sum_mul (ps := ps), Nat.mul_add]
theorem tx_len : ∀ {n : Nat} {d : PyData}, isT n d = true → (cl (tx d)).length + 7 ≤ 8 * lv d ∧ (pc d).length + 5 ≤ 8 * lv d := by
  intro n
  induction n with
  | zero => intro d h; simp [isT] at h
  | succ n ih =>
    intro d h
    obtain ⟨k, ek, h⟩ := isT_cases h
    cases ek
    rcases h with ⟨z, rfl, hz⟩ | ⟨o, ps, rfl, h1, h2, h3⟩
    · obtain ⟨c, ec, c1, c2⟩ := isLetS_cl hz
      rw [pc_str, tx_str, ec, lv_str]
      simp
    · have main : (cl (tx (.tuple (.str o :: ps)))).length + 7 ≤ 8 * lv (.tuple (.str o :: ps)) := by
        match ps, h2, h3 with
        | p1 :: pr, h2, h3 =>
          rw [cl_node, lv_node, List.length_append, tailc_len h1]
          have a : ((p1 :: pr).map fun p => (pc p).length + 5).sum ≤ ((p1 :: pr).map fun p => 8 * lv p).sum := sum_le fun p hp => (ih (h3 p hp)).2
          rw [sum_add, sum_mul] at a
          simp only [List.map_cons, List.sum_cons, List.length_cons] at a h2 ⊢
          omega
      refine ⟨main, ?_⟩
      rw [pc_tup]
      simp only [List.length_cons, List.length_append, List.length_nil]
      omega
end Z
/-! the text by places -/
namespace Z
open PySem L2
def top (i : Nat) : Stmt := PySem.Challenge.pw_fivefault_k46_whole_terms_between.main.body.getD i (.Pass ⟨0, 0, 0, 0⟩)
/-! _wall: 0 k -/
abbrev s_wall : Stmt := top 0
abbrev n_wall : List Str := ["k"]
abbrev p_wall : List Str := ["k"]
theorem sc_wall : FnScope n_wall p_wall (defScope s_wall) := ⟨rfl, rfl, rfl, by decide +kernel, rfl, by decide +kernel, by decide +kernel⟩
/-! FaultError.__init__: 0 self 1 code -/
abbrev s_FaultError_init : Stmt := inClass (top 2) 0
abbrev n_FaultError_init : List Str := ["self", "code"]
abbrev p_FaultError_init : List Str := ["self", "code"]
theorem sc_FaultError_init : FnScope n_FaultError_init p_FaultError_init (defScope s_FaultError_init) := ⟨rfl, rfl, rfl, by decide +kernel, rfl, by decide +kernel, by decide +kernel⟩
/-! Missing.__init__: 0 self 1 code -/
abbrev s_Missing_init : Stmt := inClass (top 3) 0
abbrev n_Missing_init : List Str := ["self", "code"]
abbrev p_Missing_init : List Str := ["self", "code"]
theorem sc_Missing_init : FnScope n_Missing_init p_Missing_init (defScope s_Missing_init) := ⟨rfl, rfl, rfl, by decide +kernel, rfl, by decide +kernel, by decide +kernel⟩
/-! InvalidTerm.__init__: 0 self -/
abbrev s_InvalidTerm_init : Stmt := inClass (top 4) 0
abbrev n_InvalidTerm_init : List Str := ["self"]
abbrev p_InvalidTerm_init : List Str := ["self"]
theorem sc_InvalidTerm_init : FnScope n_InvalidTerm_init p_InvalidTerm_init (defScope s_InvalidTerm_init) := ⟨rfl, rfl, rfl, by decide +kernel, rfl, by decide +kernel, by decide +kernel⟩
/-! NothingLeft.__init__: 0 self -/
abbrev s_NothingLeft_init : Stmt := inClass (top 5) 0
abbrev n_NothingLeft_init : List Str := ["self"]
abbrev p_NothingLeft_init : List Str := ["self"]
theorem sc_NothingLeft_init : FnScope n_NothingLeft_init p_NothingLeft_init (defScope s_NothingLeft_init) := ⟨rfl, rfl, rfl, by decide +kernel, rfl, by decide +kernel, by decide +kernel⟩
/-! is_letter: 0 value -/
abbrev s_is_letter : Stmt := top 11
abbrev n_is_letter : List Str := ["value"]
abbrev p_is_letter : List Str := ["value"]
theorem sc_is_letter : FnScope n_is_letter p_is_letter (defScope s_is_letter) := ⟨rfl, rfl, rfl, by decide +kernel, rfl, by decide +kernel, by decide +kernel⟩
/-! measured: 0 value 1 max_depth 2 sizes 3 part -/
abbrev s_measured : Stmt := top 12
abbrev n_measured : List Str := ["value", "max_depth", "sizes", "part"]
abbrev p_measured : List Str := ["value", "max_depth"]
theorem sc_measured : FnScope n_measured p_measured (defScope s_measured) := ⟨rfl, rfl, rfl, by decide +kernel, rfl, by decide +kernel, by decide +kernel⟩
/-! is_term: 0 value 1 max_depth 2 max_size -/
abbrev s_is_term : Stmt := top 13
abbrev n_is_term : List Str := ["value", "max_depth", "max_size"]
abbrev p_is_term : List Str := ["value", "max_depth", "max_size"]
theorem sc_is_term : FnScope n_is_term p_is_term (defScope s_is_term) := ⟨rfl, rfl, rfl, by decide +kernel, rfl, by decide +kernel, by decide +kernel⟩
/-! need_term: 0 value -/
abbrev s_need_term : Stmt := top 14
abbrev n_need_term : List Str := ["value"]
abbrev p_need_term : List Str := ["value"]
theorem sc_need_term : FnScope n_need_term p_need_term (defScope s_need_term) := ⟨rfl, rfl, rfl, by decide +kernel, rfl, by decide +kernel, by decide +kernel⟩
/-! text_of: 0 term 1 operator 2 parts 3 texts 4 part -/
abbrev s_text_of : Stmt := top 16
abbrev n_text_of : List Str := ["term", "operator", "parts", "texts", "part"]
abbrev p_text_of : List Str := ["term"]
theorem sc_text_of : FnScope n_text_of p_text_of (defScope s_text_of) := ⟨rfl, rfl, rfl, by decide +kernel, rfl, by decide +kernel, by decide +kernel⟩
/-! Free.__init__: 0 self -/
abbrev s_Free_init : Stmt := inClass (top 18) 0
abbrev n_Free_init : List Str := ["self"]
abbrev p_Free_init : List Str := ["self"]
theorem sc_Free_init : FnScope n_Free_init p_Free_init (defScope s_Free_init) := ⟨rfl, rfl, rfl, by decide +kernel, rfl, by decide +kernel, by decide +kernel⟩
/-! Free.is_below: 0 self 1 left 2 right 3 key -/
abbrev s_Free_is_below : Stmt := inClass (top 18) 1
abbrev n_Free_is_below : List Str := ["self", "left", "right", "key"]
abbrev p_Free_is_below : List Str := ["self", "left", "right"]
theorem sc_Free_is_below : FnScope n_Free_is_below p_Free_is_below (defScope s_Free_is_below) := ⟨rfl, rfl, rfl, by decide +kernel, rfl, by decide +kernel, by decide +kernel⟩
/-! Free.reason_for: 0 self 1 left 2 right 3 pairs 4 part 5 one 6 other -/
abbrev s_Free_reason_for : Stmt := inClass (top 18) 2
abbrev n_Free_reason_for : List Str := ["self", "left", "right", "pairs", "part", "one", "other"]
abbrev p_Free_reason_for : List Str := ["self", "left", "right"]
theorem sc_Free_reason_for : FnScope n_Free_reason_for p_Free_reason_for (defScope s_Free_reason_for) := ⟨rfl, rfl, rfl, by decide +kernel, rfl, by decide +kernel, by decide +kernel⟩
/-! Free.added: 0 self 1 left 2 right 3 reason -/
abbrev s_Free_added : Stmt := inClass (top 18) 3
abbrev n_Free_added : List Str := ["self", "left", "right", "reason"]
abbrev p_Free_added : List Str := ["self", "left", "right", "reason"]
theorem sc_Free_added : FnScope n_Free_added p_Free_added (defScope s_Free_added) := ⟨rfl, rfl, rfl, by decide +kernel, rfl, by decide +kernel, by decide +kernel⟩
/-! Free.step_for: 0 self 1 left 2 right -/
abbrev s_Free_step_for : Stmt := inClass (top 18) 4
abbrev n_Free_step_for : List Str := ["self", "left", "right"]
abbrev p_Free_step_for : List Str := ["self", "left", "right"]
theorem sc_Free_step_for : FnScope n_Free_step_for p_Free_step_for (defScope s_Free_step_for) := ⟨rfl, rfl, rfl, by decide +kernel, rfl, by decide +kernel, by decide +kernel⟩
/-! Free.written_reason: 0 self 1 left 2 right -/
abbrev s_Free_written_reason : Stmt := inClass (top 18) 5
abbrev n_Free_written_reason : List Str := ["self", "left", "right"]
abbrev p_Free_written_reason : List Str := ["self", "left", "right"]
theorem sc_Free_written_reason : FnScope n_Free_written_reason p_Free_written_reason (defScope s_Free_written_reason) := ⟨rfl, rfl, rfl, by decide +kernel, rfl, by decide +kernel, by decide +kernel⟩
/-! Bridge.__init__: 0 self -/
abbrev s_Bridge_init : Stmt := inClass (top 20) 0
abbrev n_Bridge_init : List Str := ["self"]
abbrev p_Bridge_init : List Str := ["self"]
theorem sc_Bridge_init : FnScope n_Bridge_init p_Bridge_init (defScope s_Bridge_init) := ⟨rfl, rfl, rfl, by decide +kernel, rfl, by decide +kernel, by decide +kernel⟩
/-! Bridge.noted: 0 self 1 steps 2 left 3 right 4 reason -/
abbrev s_Bridge_noted : Stmt := inClass (top 20) 1
abbrev n_Bridge_noted : List Str := ["self", "steps", "left", "right", "reason"]
abbrev p_Bridge_noted : List Str := ["self", "steps", "left", "right", "reason"]
theorem sc_Bridge_noted : FnScope n_Bridge_noted p_Bridge_noted (defScope s_Bridge_noted) := ⟨rfl, rfl, rfl, by decide +kernel, rfl, by decide +kernel, by decide +kernel⟩
/-! Bridge.linked: 0 self 1 steps 2 left 3 right 4 one 5 other -/
abbrev s_Bridge_linked : Stmt := inClass (top 20) 2
abbrev n_Bridge_linked : List Str := ["self", "steps", "left", "right", "one", "other"]
abbrev p_Bridge_linked : List Str := ["self", "steps", "left", "right", "one", "other"]
theorem sc_Bridge_linked : FnScope n_Bridge_linked p_Bridge_linked (defScope s_Bridge_linked) := ⟨rfl, rfl, rfl, by decide +kernel, rfl, by decide +kernel, by decide +kernel⟩
/-! Bridge.found: 0 self 1 left 2 right 3 low -/
abbrev s_Bridge_found : Stmt := inClass (top 20) 3
abbrev n_Bridge_found : List Str := ["self", "left", "right", "low"]
abbrev p_Bridge_found : List Str := ["self", "left", "right"]
theorem sc_Bridge_found : FnScope n_Bridge_found p_Bridge_found (defScope s_Bridge_found) := ⟨rfl, rfl, rfl, by decide +kernel, rfl, by decide +kernel, by decide +kernel⟩
/-! Bridge.over_left: 0 self 1 left 2 right 3 rows 4 term 5 steps 6 indexes 7 part 8 inner 9 low 10 high 11 last 12 first 13 row -/
abbrev s_Bridge_over_left : Stmt := inClass (top 20) 4
abbrev n_Bridge_over_left : List Str := ["self", "left", "right", "rows", "term", "steps", "indexes", "part", "inner", "low", "high", "last", "first", "row"]
abbrev p_Bridge_over_left : List Str := ["self", "left", "right"]
theorem sc_Bridge_over_left : FnScope n_Bridge_over_left p_Bridge_over_left (defScope s_Bridge_over_left) := ⟨rfl, rfl, rfl, by decide +kernel, rfl, by decide +kernel, by decide +kernel⟩
/-! Bridge.over_right: 0 self 1 left 2 right 3 rows 4 term 5 steps 6 indexes 7 part 8 inner 9 low 10 high 11 first 12 last 13 row -/
abbrev s_Bridge_over_right : Stmt := inClass (top 20) 5
abbrev n_Bridge_over_right : List Str := ["self", "left", "right", "rows", "term", "steps", "indexes", "part", "inner", "low", "high", "first", "last", "row"]
abbrev p_Bridge_over_right : List Str := ["self", "left", "right"]
theorem sc_Bridge_over_right : FnScope n_Bridge_over_right p_Bridge_over_right (defScope s_Bridge_over_right) := ⟨rfl, rfl, rfl, by decide +kernel, rfl, by decide +kernel, by decide +kernel⟩
/-! Bridge.through_part: 0 self 1 left 2 right 3 kind 4 pairs 5 part 6 term 7 low 8 high 9 last 10 first -/
abbrev s_Bridge_through_part : Stmt := inClass (top 20) 6
abbrev n_Bridge_through_part : List Str := ["self", "left", "right", "kind", "pairs", "part", "term", "low", "high", "last", "first"]
abbrev p_Bridge_through_part : List Str := ["self", "left", "right"]
theorem sc_Bridge_through_part : FnScope n_Bridge_through_part p_Bridge_through_part (defScope s_Bridge_through_part) := ⟨rfl, rfl, rfl, by decide +kernel, rfl, by decide +kernel, by decide +kernel⟩
/-! between: 0 left 1 right 2 bridge 3 term 4 low 5 high -/
abbrev s_between : Stmt := top 21
abbrev n_between : List Str := ["left", "right", "bridge", "term", "low", "high"]
abbrev p_between : List Str := ["left", "right"]
theorem sc_between : FnScope n_between p_between (defScope s_between) := ⟨rfl, rfl, rfl, by decide +kernel, rfl, by decide +kernel, by decide +kernel⟩
/-! _law_source: 0 _law_script -/
abbrev s_L_source : Stmt := top 23
abbrev n_L_source : List Str := ["_law_script"]
abbrev p_L_source : List Str := ["_law_script"]
theorem sc_L_source : FnScope n_L_source p_L_source (defScope s_L_source) := ⟨rfl, rfl, rfl, by decide +kernel, rfl, by decide +kernel, by decide +kernel⟩
/-! _law_take: 0 _law_source_here 1 _law_many 2 _law_cell 3 _law_digit 4 _law_mixed_here -/
abbrev s_L_take : Stmt := top 24
abbrev n_L_take : List Str := ["_law_source_here", "_law_many", "_law_cell", "_law_digit", "_law_mixed_here"]
abbrev p_L_take : List Str := ["_law_source_here", "_law_many"]
theorem sc_L_take : FnScope n_L_take p_L_take (defScope s_L_take) := ⟨rfl, rfl, rfl, by decide +kernel, rfl, by decide +kernel, by decide +kernel⟩
/-! _law_pick: 0 _law_source_here 1 _law_row -/
abbrev s_L_pick : Stmt := top 25
abbrev n_L_pick : List Str := ["_law_source_here", "_law_row"]
abbrev p_L_pick : List Str := ["_law_source_here", "_law_row"]
theorem sc_L_pick : FnScope n_L_pick p_L_pick (defScope s_L_pick) := ⟨rfl, rfl, rfl, by decide +kernel, rfl, by decide +kernel, by decide +kernel⟩
/-! _law_mixed: 0 _law_source_here 1 _law_row 2 _law_found 3 _law_one -/
abbrev s_L_mixed : Stmt := top 26
abbrev n_L_mixed : List Str := ["_law_source_here", "_law_row", "_law_found", "_law_one"]
abbrev p_L_mixed : List Str := ["_law_source_here", "_law_row"]
theorem sc_L_mixed : FnScope n_L_mixed p_L_mixed (defScope s_L_mixed) := ⟨rfl, rfl, rfl, by decide +kernel, rfl, by decide +kernel, by decide +kernel⟩
/-! _law_call: 0 _law_ask 1 _law_told 2 _law_word 3 e -/
abbrev s_L_call : Stmt := top 27
abbrev n_L_call : List Str := ["_law_ask", "_law_told", "_law_word", "e"]
abbrev p_L_call : List Str := ["_law_ask"]
theorem sc_L_call : FnScope n_L_call p_L_call (defScope s_L_call) := ⟨rfl, rfl, rfl, by decide +kernel, rfl, by decide +kernel, by decide +kernel⟩
/-! _law_parts: 0 _law_word -/
abbrev s_L_parts : Stmt := top 28
abbrev n_L_parts : List Str := ["_law_word"]
abbrev p_L_parts : List Str := ["_law_word"]
theorem sc_L_parts : FnScope n_L_parts p_L_parts (defScope s_L_parts) := ⟨rfl, rfl, rfl, by decide +kernel, rfl, by decide +kernel, by decide +kernel⟩
/-! _law_text: 0 _law_word 1 _law_texts 2 _law_one -/
abbrev s_L_text : Stmt := top 29
abbrev n_L_text : List Str := ["_law_word", "_law_texts", "_law_one"]
abbrev p_L_text : List Str := ["_law_word"]
theorem sc_L_text : FnScope n_L_text p_L_text (defScope s_L_text) := ⟨rfl, rfl, rfl, by decide +kernel, rfl, by decide +kernel, by decide +kernel⟩
/-! _law_leaves: 0 _law_word 1 _law_one -/
abbrev s_L_leaves : Stmt := top 30
abbrev n_L_leaves : List Str := ["_law_word", "_law_one"]
abbrev p_L_leaves : List Str := ["_law_word"]
theorem sc_L_leaves : FnScope n_L_leaves p_L_leaves (defScope s_L_leaves) := ⟨rfl, rfl, rfl, by decide +kernel, rfl, by decide +kernel, by decide +kernel⟩
/-! _law_walk: 0 _law_word 1 _law_found 2 _law_one -/
abbrev s_L_walk : Stmt := top 31
abbrev n_L_walk : List Str := ["_law_word", "_law_found", "_law_one"]
abbrev p_L_walk : List Str := ["_law_word"]
theorem sc_L_walk : FnScope n_L_walk p_L_walk (defScope s_L_walk) := ⟨rfl, rfl, rfl, by decide +kernel, rfl, by decide +kernel, by decide +kernel⟩
/-! _law_signs_in: 0 _law_word 1 _law_one -/
abbrev s_L_signs_in : Stmt := top 32
abbrev n_L_signs_in : List Str := ["_law_word", "_law_one"]
abbrev p_L_signs_in : List Str := ["_law_word"]
theorem sc_L_signs_in : FnScope n_L_signs_in p_L_signs_in (defScope s_L_signs_in) := ⟨rfl, rfl, rfl, by decide +kernel, rfl, by decide +kernel, by decide +kernel⟩
/-! _law_swap: 0 _law_word 1 _law_table 2 _law_one -/
abbrev s_L_swap : Stmt := top 33
abbrev n_L_swap : List Str := ["_law_word", "_law_table", "_law_one"]
abbrev p_L_swap : List Str := ["_law_word", "_law_table"]
theorem sc_L_swap : FnScope n_L_swap p_L_swap (defScope s_L_swap) := ⟨rfl, rfl, rfl, by decide +kernel, rfl, by decide +kernel, by decide +kernel⟩
/-! _law_term: 0 _law_source_here 1 _law_signs_here 2 _law_deep 3 _law_room 4 _law_many 5 _law_operator 6 _law_k -/
abbrev s_L_term : Stmt := top 34
abbrev n_L_term : List Str := ["_law_source_here", "_law_signs_here", "_law_deep", "_law_room", "_law_many", "_law_operator", "_law_k"]
abbrev p_L_term : List Str := ["_law_source_here", "_law_signs_here", "_law_deep", "_law_room"]
theorem sc_L_term : FnScope n_L_term p_L_term (defScope s_L_term) := ⟨rfl, rfl, rfl, by decide +kernel, rfl, by decide +kernel, by decide +kernel⟩
/-! _law_signs: 0 _law_source_here 1 _law_most 2 _law_every -/
abbrev s_L_signs : Stmt := top 35
abbrev n_L_signs : List Str := ["_law_source_here", "_law_most", "_law_every"]
abbrev p_L_signs : List Str := ["_law_source_here", "_law_most"]
theorem sc_L_signs : FnScope n_L_signs p_L_signs (defScope s_L_signs) := ⟨rfl, rfl, rfl, by decide +kernel, rfl, by decide +kernel, by decide +kernel⟩
/-! _law_index: 0 _law_one 1 _law_at -/
abbrev s_L_index : Stmt := top 36
abbrev n_L_index : List Str := ["_law_one", "_law_at"]
abbrev p_L_index : List Str := ["_law_one", "_law_at"]
theorem sc_L_index : FnScope n_L_index p_L_index (defScope s_L_index) := ⟨rfl, rfl, rfl, by decide +kernel, rfl, by decide +kernel, by decide +kernel⟩
/-! _law_long: 0 _law_word 1 _law_deep 2 _law_one -/
abbrev s_L_long : Stmt := top 37
abbrev n_L_long : List Str := ["_law_word", "_law_deep", "_law_one"]
abbrev p_L_long : List Str := ["_law_word", "_law_deep"]
theorem sc_L_long : FnScope n_L_long p_L_long (defScope s_L_long) := ⟨rfl, rfl, rfl, by decide +kernel, rfl, by decide +kernel, by decide +kernel⟩
/-! _law_many_right: 0 _law_steps 1 _law_at 2 _law_indexes 3 _law_mleft 4 _law_mright 5 _law_reason 6 _law_whole 7 _law_sign 8 _law_due 9 _law_one -/
abbrev s_L_many_right : Stmt := top 38
abbrev n_L_many_right : List Str := ["_law_steps", "_law_at", "_law_indexes", "_law_mleft", "_law_mright", "_law_reason", "_law_whole", "_law_sign", "_law_due", "_law_one"]
abbrev p_L_many_right : List Str := ["_law_steps", "_law_at", "_law_indexes"]
theorem sc_L_many_right : FnScope n_L_many_right p_L_many_right (defScope s_L_many_right) := ⟨rfl, rfl, rfl, by decide +kernel, rfl, by decide +kernel, by decide +kernel⟩
/-! _law_reason_right: 0 _law_steps 1 _law_at 2 _law_premises 3 _law_mleft 4 _law_mright 5 _law_reason 6 _law_down 7 _law_one 8 _law_other -/
abbrev s_L_reason_right : Stmt := top 39
abbrev n_L_reason_right : List Str := ["_law_steps", "_law_at", "_law_premises", "_law_mleft", "_law_mright", "_law_reason", "_law_down", "_law_one", "_law_other"]
abbrev p_L_reason_right : List Str := ["_law_steps", "_law_at", "_law_premises"]
theorem sc_L_reason_right : FnScope n_L_reason_right p_L_reason_right (defScope s_L_reason_right) := ⟨rfl, rfl, rfl, by decide +kernel, rfl, by decide +kernel, by decide +kernel⟩
/-! _law_steps_right: 0 _law_premises 1 _law_aim 2 _law_steps 3 _law_at 4 _law_one -/
abbrev s_L_steps_right : Stmt := top 40
abbrev n_L_steps_right : List Str := ["_law_premises", "_law_aim", "_law_steps", "_law_at", "_law_one"]
abbrev p_L_steps_right : List Str := ["_law_premises", "_law_aim", "_law_steps"]
theorem sc_L_steps_right : FnScope n_L_steps_right p_L_steps_right (defScope s_L_steps_right) := ⟨rfl, rfl, rfl, by decide +kernel, rfl, by decide +kernel, by decide +kernel⟩
/-! _law_below: 0 _law_one 1 _law_other 2 _law_known 3 _law_key -/
abbrev s_L_below : Stmt := top 41
abbrev n_L_below : List Str := ["_law_one", "_law_other", "_law_known", "_law_key"]
abbrev p_L_below : List Str := ["_law_one", "_law_other", "_law_known"]
theorem sc_L_below : FnScope n_L_below p_L_below (defScope s_L_below) := ⟨rfl, rfl, rfl, by decide +kernel, rfl, by decide +kernel, by decide +kernel⟩
/-! _law_below_now: 0 _law_one 1 _law_other 2 _law_known 3 _law_part -/
abbrev s_L_below_now : Stmt := top 42
abbrev n_L_below_now : List Str := ["_law_one", "_law_other", "_law_known", "_law_part"]
abbrev p_L_below_now : List Str := ["_law_one", "_law_other", "_law_known"]
theorem sc_L_below_now : FnScope n_L_below_now p_L_below_now (defScope s_L_below_now) := ⟨rfl, rfl, rfl, by decide +kernel, rfl, by decide +kernel, by decide +kernel⟩
/-! _law_measure: 0 _law_word 1 _law_deep 2 _law_sizes 3 _law_one -/
abbrev s_L_measure : Stmt := top 43
abbrev n_L_measure : List Str := ["_law_word", "_law_deep", "_law_sizes", "_law_one"]
abbrev p_L_measure : List Str := ["_law_word", "_law_deep"]
theorem sc_L_measure : FnScope n_L_measure p_L_measure (defScope s_L_measure) := ⟨rfl, rfl, rfl, by decide +kernel, rfl, by decide +kernel, by decide +kernel⟩
/-! _law_fits: 0 _law_word -/
abbrev s_L_fits : Stmt := top 44
abbrev n_L_fits : List Str := ["_law_word"]
abbrev p_L_fits : List Str := ["_law_word"]
theorem sc_L_fits : FnScope n_L_fits p_L_fits (defScope s_L_fits) := ⟨rfl, rfl, rfl, by decide +kernel, rfl, by decide +kernel, by decide +kernel⟩
/-! _law_odd: 0 _law_source_here 1 _law_word 2 _law_some -/
abbrev s_L_odd : Stmt := top 45
abbrev n_L_odd : List Str := ["_law_source_here", "_law_word", "_law_some"]
abbrev p_L_odd : List Str := ["_law_source_here", "_law_word"]
theorem sc_L_odd : FnScope n_L_odd p_L_odd (defScope s_L_odd) := ⟨rfl, rfl, rfl, by decide +kernel, rfl, by decide +kernel, by decide +kernel⟩
/-! _law_nest: 0 _law_many 1 _law_word 2 _law_k -/
abbrev s_L_nest : Stmt := top 46
abbrev n_L_nest : List Str := ["_law_many", "_law_word", "_law_k"]
abbrev p_L_nest : List Str := ["_law_many"]
theorem sc_L_nest : FnScope n_L_nest p_L_nest (defScope s_L_nest) := ⟨rfl, rfl, rfl, by decide +kernel, rfl, by decide +kernel, by decide +kernel⟩
/-! _law_same_word: 0 _law_source_here 1 _law_word 2 _law_known 3 _law_way 4 _law_other 5 _law_parts_here 6 _law_at -/
abbrev s_L_same_word : Stmt := top 47
abbrev n_L_same_word : List Str := ["_law_source_here", "_law_word", "_law_known", "_law_way", "_law_other", "_law_parts_here", "_law_at"]
abbrev p_L_same_word : List Str := ["_law_source_here", "_law_word", "_law_known"]
theorem sc_L_same_word : FnScope n_L_same_word p_L_same_word (defScope s_L_same_word) := ⟨rfl, rfl, rfl, by decide +kernel, rfl, by decide +kernel, by decide +kernel⟩
/-! _law_rewritten: 0 _law_source_here 1 _law_word 2 _law_many 3 _law_turn 4 _law_later -/
abbrev s_L_rewritten : Stmt := top 48
abbrev n_L_rewritten : List Str := ["_law_source_here", "_law_word", "_law_many", "_law_turn", "_law_later"]
abbrev p_L_rewritten : List Str := ["_law_source_here", "_law_word", "_law_many"]
theorem sc_L_rewritten : FnScope n_L_rewritten p_L_rewritten (defScope s_L_rewritten) := ⟨rfl, rfl, rfl, by decide +kernel, rfl, by decide +kernel, by decide +kernel⟩
/-! _law_two_words: 0 _law_source_here 1 _law_signs_here 2 _law_one 3 _law_two 4 _law_way -/
abbrev s_L_two_words : Stmt := top 49
abbrev n_L_two_words : List Str := ["_law_source_here", "_law_signs_here", "_law_one", "_law_two", "_law_way"]
abbrev p_L_two_words : List Str := ["_law_source_here"]
theorem sc_L_two_words : FnScope n_L_two_words p_L_two_words (defScope s_L_two_words) := ⟨rfl, rfl, rfl, by decide +kernel, rfl, by decide +kernel, by decide +kernel⟩
/-! law: 0 _law_script 1 _law_source_here 2 _law_turn 3 _law_one 4 _law_two 5 _law_way 6 _law_table 7 _law_found 8 _law_word 9 _law_low 10 _law_high 11 _law_both 12 _law_odd_here 13 _law_sign -/
abbrev s_law : Stmt := top 50
abbrev n_law : List Str := ["_law_script", "_law_source_here", "_law_turn", "_law_one", "_law_two", "_law_way", "_law_table", "_law_found", "_law_word", "_law_low", "_law_high", "_law_both", "_law_odd_here", "_law_sign"]
abbrev p_law : List Str := ["_law_script"]
theorem sc_law : FnScope n_law p_law (defScope s_law) := ⟨rfl, rfl, rfl, by decide +kernel, rfl, by decide +kernel, by decide +kernel⟩
end Z
namespace Z
open PySem L2

/-- the built-in names that no global of the text hides -/
structure Blt (mg : Str → Option Value) : Prop where
  isinstance : mg "isinstance" = none
  len : mg "len" = none
  all : mg "all" = none
  any : mg "any" = none
  sum : mg "sum" = none
  zip : mg "zip" = none
  range : mg "range" = none
  sorted : mg "sorted" = none
  int_ : mg "int" = none
  str_ : mg "str" = none
  tuple_ : mg "tuple" = none
  list_ : mg "list" = none
  set_ : mg "set" = none
  bool_ : mg "bool" = none
  verr : mg "ValueError" = none
theorem bt_isinstance : bootBuiltins "isinstance" = some (.builtin "isinstance") := by decide +kernel
theorem bt_len : bootBuiltins "len" = some (.builtin "len") := by decide +kernel
theorem bt_all : bootBuiltins "all" = some (.builtin "all") := by decide +kernel
theorem bt_any : bootBuiltins "any" = some (.builtin "any") := by decide +kernel
theorem bt_sum : bootBuiltins "sum" = some (.builtin "sum") := by decide +kernel
theorem bt_zip : bootBuiltins "zip" = some (.type "zip") := by decide +kernel
theorem bt_range : bootBuiltins "range" = some (.type "range") := by decide +kernel
theorem bt_sorted : bootBuiltins "sorted" = some (.builtin "sorted") := by decide +kernel
theorem bt_int : bootBuiltins "int" = some (.type "int") := by decide +kernel
theorem bt_str : bootBuiltins "str" = some (.type "str") := by decide +kernel
theorem bt_tuple : bootBuiltins "tuple" = some (.type "tuple") := by decide +kernel
theorem bt_list : bootBuiltins "list" = some (.type "list") := by decide +kernel
theorem bt_set : bootBuiltins "set" = some (.type "set") := by decide +kernel
theorem bt_bool : bootBuiltins "bool" = some (.type "bool") := by decide +kernel
/-! the rules' readings over K itself (within a comprehension's block) -/
section
variable {X : Cx} (K : PySem.W.Frag)
theorem w_isi (h : X.K = K := by rfl) : CallR X (.builtin "isinstance") (rIsi K) := h ▸ call_isi
theorem w_len (h : X.K = K := by rfl) : CallR X (.builtin "len") (rLenC K) := h ▸ call_len
theorem w_all (hc : X.calm = true) (h : X.K = K := by rfl) : CallR X (.builtin "all") (rAll K) := h ▸ cr_all hc
theorem w_any (hc : X.calm = true) (h : X.K = K := by rfl) : CallR X (.builtin "any") (rAny K) := h ▸ cr_any hc
theorem w_sum (hc : X.calm = true) (h : X.K = K := by rfl) : CallR X (.builtin "sum") (rSum K) := h ▸ cr_sum hc
theorem w_list (h : X.K = K := by rfl) : CallR X (.type "list") (rListC K) := h ▸ call_list_of
theorem w_tuple (h : X.K = K := by rfl) : CallR X (.type "tuple") (rTupC K) := h ▸ call_tuple_of
theorem w_eqD (hu : X.A.units + 64 < cLine) (h : X.K = K := by rfl) : OpR X (compareOp .Eq) (rEqD K) := h ▸ op_eqD hu
theorem w_neD (hu : X.A.units + 64 < cLine) (h : X.K = K := by rfl) : OpR X (compareOp .NotEq) (rNeD K) := h ▸ op_neD hu
theorem w_in (h : X.K = K := by rfl) : OpR X (compareOp .In) (rIn K false) := h ▸ op_in_seq
theorem w_notIn (h : X.K = K := by rfl) : OpR X (compareOp .NotIn) (rIn K true) := h ▸ op_notIn_seq
theorem w_inD (hu : X.A.units + 65 < cLine) (h : X.K = K := by rfl) : OpR X (compareOp .In) (rInD K) := h ▸ op_inD hu
theorem w_slT (h : X.K = K := by rfl) : SlR X (rSlT K) := h ▸ sl_tup
theorem w_slL (h : X.K = K := by rfl) : SlR X (rSlL K) := h ▸ sl_list
theorem w_ix (h : X.K = K := by rfl) : IxR X (rIx K) := h ▸ ix_seq
end
structure Cns (K : PySem.W.Frag) (mg : Str → Option Value) where
  tL : Tok
  LETTERS : mg "LETTERS" = some (.str Z.LETTERS tL)
  aO : Addr
  OPERATORS : mg "OPERATORS" = some (.ref aO)
  ops : ∀ H, SqT K H aO [.str AMP, .str BAR]
/-- a def of the top -/
structure Def (K : PySem.W.Frag) (mg : Str → Option Value) (x : Str) (st : Stmt) (ps : List Str) where
  f : Addr
  fd : FuncData
  fn : Fun K x x st f fd
  b : Binds K fd ps []
  g : mg x = some (.ref f)
section
variable {P : Program} {w : World} {K : PySem.W.Frag} {mg : Str → Option Value} {base : Heap}
/-- a promise that nobody asks -/
theorem fn_void {α : Type} {W : α → Wd} {g : ∀ x, (W x).G} {ar : α → List Sl} {pre : α → Prop} {post : ∀ x, Sl → (W x).G → Prop} {f : Addr} {fd : FuncData} {ps : List Str} {k : Nat} (h : ∀ x, ¬ pre x) : FnOk P w K mg base CX0 k f fd ps (spG K W g ar pre post) :=
  ⟨fun vs H Q E ⟨x, _, _, p, _⟩ => (h x p).elim, fun A outer s H args us vs Q E _ _ _ _ ⟨x, _, _, p, _⟩ => (h x p).elim⟩
def small (d : PyData) : Prop := ∀ z, d = .str z → z.length ≤ sizeLine
abbrev sp_is_letter (K : PySem.W.Frag) : Sp := spP K (β := PyData) (fun d => [.dat d]) small (fun d s => s = .dat (.bool (isLet d)))
theorem ok_is_letter (B : Blt mg) (C : Cns K mg) (D : Def K mg "is_letter" s_is_letter p_is_letter) : FnOk P w K mg base CX0 1 D.f D.fd p_is_letter (sp_is_letter K) := by
  refine fn_okP D.fn sc_is_letter (fun _ => rfl) fun cdv A outer s H E hr N d hd => ⟨_, (pss_one (ps_ret (pe_and (pe_callB (w_isi K) (by rfl) B.isinstance bt_isinstance (pa_cons (pv 0) (pa_cons (pe_bltn (v := .ty "str") (by rfl) B.str_ bt_str rfl) pa_nil))) (pe_and (pe_cmpR (w_eqD K hr.units) (pe_callB (w_len K) (by rfl) B.len bt_len (pa_cons (pv 0) pa_nil)) pe_int (nomark _)) (pe_one (pe_cmpR op_in_sign (pv 0) (pe_glob (v := .str LETTERS) rfl C.LETTERS ⟨_, rfl⟩) (by rfl))))))), ?_⟩
  refine x_ret (EvS.to (s := .dat (.bool (isLet d))) ?_ rfl)
  match d, hd with
  | .str z, hd =>
    have hz := hd z rfl
    by_cases h1 : ∃ c, z = ⟨#[c]⟩
    · obtain ⟨c, rfl⟩ := h1
      refine (ev_and (b := true && decide (c ∈ LETTERS.cps.toList)) (ev_isStr (ev_var rfl)) fun _ => ev_and (a := true) (b := decide (c ∈ LETTERS.cps.toList)) ((ev_opD (ev_len (ev_var rfl) (n := 1) rfl (fun z e => by cases e; exact hz)) ev_int (rv_eqD (by decide +kernel) (by decide +kernel))).asD rfl) fun _ => ev_opD (ev_var rfl) (ev_c fun _ => .str _) rv_inSign).asD ?_
      show PyData.bool (true && (true && decide (c ∈ LETTERS.cps.toList))) = PyData.bool (isLetS ⟨#[c]⟩)
      unfold isLetS
      simp only [Bool.true_and]
      congr 1
      exact decide_eq_decide.mpr mem_letters
    · have hl : isLetS z = false := by
        cases q : isLetS z with
        | false => rfl
        | true =>
          obtain ⟨c, e, _⟩ := isLetS_iff.mp q
          exact absurd ⟨c, e⟩ h1
      have hn : (z.length : Int) ≠ 1 := fun e => h1 (by
        obtain ⟨⟨l⟩⟩ := z
        match l, e with
        | [c], _ => exact ⟨c, rfl⟩
        | [], e => exact absurd e (by decide)
        | _ :: _ :: r, e => exact absurd e (by show ((r.length + 1 + 1 : Nat) : Int) ≠ 1; omega))
      refine (ev_and (b := false && false) (ev_isStr (ev_var rfl)) fun _ => ev_and (a := false) (b := false) ((ev_opD (ev_len (ev_var rfl) (n := z.length) rfl (fun z' e => by cases e; exact hz)) ev_int (rv_eqD (Fit.shaped (Fit.int (n := 0) _) (by decide)) (by decide +kernel))).asD ?_) fun h => by cases h).asD ?_
      · simp [PyData.eqv, hn]
      · show PyData.bool (true && (false && false)) = PyData.bool (isLetS z)
        rw [hl]
        rfl
  | .none, _ => exact (ev_and (b := false) (ev_isStr (ev_var rfl)) fun h => by cases h).asD rfl
  | .bool _, _ => exact (ev_and (b := false) (ev_isStr (ev_var rfl)) fun h => by cases h).asD rfl
  | .int _, _ => exact (ev_and (b := false) (ev_isStr (ev_var rfl)) fun h => by cases h).asD rfl
  | .list _, _ => exact (ev_and (b := false) (ev_isStr (ev_var rfl)) fun h => by cases h).asD rfl
  | .tuple _, _ => exact (ev_and (b := false) (ev_isStr (ev_var rfl)) fun h => by cases h).asD rfl
  | .dict _, _ => exact (ev_and (b := false) (ev_isStr (ev_var rfl)) fun h => by cases h).asD rfl
end
end Z
namespace Z
open PySem L2
section
variable {P : Program} {w : World} {K : PySem.W.Frag} {mg : Str → Option Value} {base : Heap}
/-! every text in it is short -/
mutual
def shorts : PyData → Bool
  | .str z => decide (z.length ≤ 1000)
  | .tuple ds => shortsA ds
  | .list ds => shortsA ds
  | _ => true
def shortsA : List PyData → Bool
  | [] => true
  | d :: ds => shorts d && shortsA ds
end
theorem shortsA_mem {ds : List PyData} : shortsA ds = true ↔ ∀ d ∈ ds, shorts d = true := by
  induction ds with
  | nil => simp [shortsA]
  | cons d ds ih => simp [shortsA, ih]
theorem small_of {d : PyData} (h : shorts d = true) : small d := fun z e => by
  subst e
  exact Nat.le_trans (of_decide_eq_true (by simpa [shorts] using h)) (by decide)
def lt3 : PyData → Bool
  | .tuple ds => decide ((ds.length : Int) < 3)
  | _ => false
def badOp : PyData → Bool
  | .str o => !isOp o
  | _ => false
abbrev sp_measured (K : PySem.W.Frag) (n : Nat) : Sp := spP K (β := PyData × Nat) (fun x => [.dat x.1, .dat (.int x.2)]) (fun x => shorts x.1 = true ∧ x.2 < n) (fun x s => s = .dat (.int (meas x.2 x.1)))
theorem ops_da {N : Addr → Prop} {H : Hp} (C : Cns K mg) : Da K N H (.ref C.aO) (.tuple [.str AMP, .str BAR]) := .tup (C.ops H) (by decide) (.cons (.str _) (.cons (.str _) .nil))
theorem isOp_any {o : Str} : ([PyData.str AMP, .str BAR].any fun e => PyData.eqv e (.str o)) = isOp o := by
  unfold isOp
  simp only [List.any_cons, List.any_nil, PyData.eqv, Bool.or_false]
  rw [Bool.beq_comm (a := o), Bool.beq_comm (a := o)]
theorem meas_no {n : Nat} {d : PyData} (h : isT n d = false) : meas n d = 0 := by
  unfold meas
  rw [h]
  rfl
theorem ok_measured (B : Blt mg) (C : Cns K mg) (D_measured : Def K mg "measured" s_measured p_measured) (D_is_letter : Def K mg "is_letter" s_is_letter p_is_letter) :
    ∀ n, FnOk P w K mg base CX0 (n + 2) D_measured.f D_measured.fd p_measured (sp_measured K n) := by
  intro n
  have G_is_letter : FnOk P w K mg base CX0 1 D_is_letter.f D_is_letter.fd p_is_letter (sp_is_letter K) := ok_is_letter B C D_is_letter
  induction n with
  | zero => exact fn_void fun x h => Nat.not_lt_zero _ h.2
  | succ n ih =>
    have G_measured := ih
    refine fn_okP D_measured.fn sc_measured (fun _ => rfl) fun cdv A outer s H E hr N x hx => ⟨_, (pss_cons (ps_if (pt_val (pe_call G_is_letter (hr.mono (by omega)) rfl D_is_letter.g D_is_letter.fn.kp D_is_letter.b .nil pass0 (pa_cons (pv 0) pa_nil))) (pss_one (ps_ret (pe_callTy call_int1 (by rfl) B.int_ bt_int (pa_cons (pe_cmpR op_gt (pv 1) pe_int (nomark _)) pa_nil)))) pss_nil)
  (pss_cons (ps_if (PW.pt (pw_or (pt_cmpR op_lt (pv 1) pe_int (nomark _)) (pw_or (pt_not (pt_val (pe_callB (w_isi K) (by rfl) B.isinstance bt_isinstance (pa_cons (pv 0) (pa_cons (pe_bltn (v := .ty "tuple") (by rfl) B.tuple_ bt_tuple rfl) pa_nil))))) (pw_or1 (pt_cmpR op_lt (pe_callB (w_len K) (by rfl) B.len bt_len (pa_cons (pv 0) pa_nil)) pe_int (nomark _)))))) (pss_one (ps_ret pe_int)) pss_nil)
  (pss_cons (ps_if (PW.pt (pw_or (pt_not (pt_val (pe_callB (w_isi K) (by rfl) B.isinstance bt_isinstance (pa_cons (pe_ix (w_ix K) (pv 0) pe_int (fun _ _ => rfl)) (pa_cons (pe_bltn (v := .ty "str") (by rfl) B.str_ bt_str rfl) pa_nil))))) (pw_or1 (pt_cmpR (w_notIn K) (pe_ix (w_ix K) (pv 0) pe_int (fun _ _ => rfl)) (pe_glob (v := .ref C.aO) rfl C.OPERATORS rfl) (by rfl))))) (pss_one (ps_ret pe_int)) pss_nil)
  (pss_cons (ps_setLc (i := 2) (own := [("part", 3)]) (g := gName 3) (tt := tYes) rfl sc_measured.nd rfl rfl (sw_true rfl rfl rfl (by decide +kernel)) (pi_tup (pe_slice (w_slT K) (pv 0) (po_some pe_int) po_none)) (blkOk_by (N := n_measured) (sc := defScope s_measured) (by decide +kernel)) (fun _ _ _ _ _ => (pg_name (i := 3) sc_measured.nd rfl (by first | exact Or.inl rfl | exact Or.inr rfl))) (fun _ _ _ _ _ => pts_nil) (fun _ _ _ _ _ => (pe_call G_measured (hr.mono (by omega)) rfl D_measured.g D_measured.fn.kp D_measured.b .nil pass0 (pa_cons (pv 3) (pa_cons (pe_op op_sub (pv 1) pe_int) pa_nil)))))
  (pss_one (ps_ret (pe_ifExp (pt_cmpR (w_in K) pe_int (pv 2) (by rfl)) pe_int (pe_callB (w_sum K rfl) (by rfl) B.sum bt_sum (pa_cons (pv 2) pa_nil))))))))), ?_⟩
    obtain ⟨d, m⟩ := x
    obtain ⟨hd, hm⟩ := hx
    dsimp only at hd hm ⊢
    have hsm := small_of hd
    -- if is_letter(value): return int(max_depth > 0)
    refine x_seq (x_ifD (b := isLet d) (tv_B (ev_callD (av_one (ev_var rfl)) (rc_spP d rfl hsm fun s e => ⟨e, rfl⟩))) (fun hl => ?_) (fun hl => x_next ?_))
    · refine x_ret (EvS.to (ev_cb1 (ev_opD (ev_var rfl) ev_int rv_gt) rc_intB) ?_)
      show Sl.dat (.int (if decide ((0 : Int) < (m : Int)) = true then 1 else 0)) = .dat (.int ((meas m d : Nat) : Int))
      match d, hl with
      | .str z, hl =>
        have hl' : isLetS z = true := hl
        unfold meas
        rw [isT_str, hl', lv_str]
        by_cases h0 : 0 < m
        · rw [if_pos (decide_eq_true (by omega)), decide_eq_true h0]; rfl
        · rw [if_neg (by simp; omega), decide_eq_false h0]; rfl
    -- if max_depth < 2 or not isinstance(value, tuple) or len(value) < 3: return 0
    refine x_seq (x_ifD (b := decide ((m : Int) < 2) || (!isTup d || lt3 d)) (tv_or (tv_test (ev_opD (ev_var rfl) ev_int rv_lt)) fun _ => tv_or (tv_not (tv_B (ev_isTup (ev_var rfl)))) fun ht => ?_) (fun hb => x_ret (ev_int.to ?_)) (fun hb => x_next ?_))
    · match d, ht with
      | .tuple ds, _ => exact tv_test (ev_opD (ev_len (ev_var rfl) (n := ds.length) rfl) ev_int rv_lt)
    · show Sl.dat (.int 0) = .dat (.int ((meas m d : Nat) : Int))
      rw [meas_no]
      · rfl
      · cases q : isT m d with
        | false => rfl
        | true =>
          obtain ⟨k, e, q⟩ := isT_cases q
          rcases q with ⟨z, rfl, q⟩ | ⟨o, ps, rfl, h1, h2, h3⟩
          · rw [isT_str, show isLetS z = false from hl] at q; simp at q
          · subst e
            have hk : 1 ≤ k := by
              cases ps with
              | nil => simp at h2
              | cons p ps =>
                have := h3 p List.mem_cons_self
                cases k with
                | zero => simp [isT] at this
                | succ k => omega
            simp [isTup, lt3] at hb
            omega
    · have hb' : ¬ (m : Int) < 2 ∧ ∃ ds, d = .tuple ds ∧ ¬ (ds.length : Int) < 3 := by
        match d, hb with
        | .tuple ds, hb =>
          simp [isTup, lt3] at hb
          exact ⟨by omega, ds, rfl, by omega⟩
        | .none, hb => simp [isTup, lt3] at hb
        | .bool _, hb => simp [isTup, lt3] at hb
        | .int _, hb => simp [isTup, lt3] at hb
        | .str _, hb => simp [isTup, lt3] at hb
        | .list _, hb => simp [isTup, lt3] at hb
        | .dict _, hb => simp [isTup, lt3] at hb
      obtain ⟨hm2, ds, rfl, hds⟩ := hb'
      obtain ⟨c, ps, rfl⟩ : ∃ c ps, ds = c :: ps := by
        cases ds with
        | nil => simp at hds
        | cons c ps => exact ⟨c, ps, rfl⟩
      have hps : 2 ≤ ps.length := by simp at hds; omega
      have hc : shorts c = true ∧ shortsA ps = true := by simpa [shorts, shortsA] using hd
      have h0 : atD (.tuple (c :: ps)) 0 = some c := by
        show atI (c :: ps) 0 = some c
        exact atI_nat (j := 0) rfl
      -- if not isinstance(value[0], str) or value[0] not in OPERATORS: return 0
      refine x_seq (x_ifD (b := !isStr c || badOp c) (tv_or (tv_not (tv_B (ev_isStr (ev_opD (ev_var rfl) ev_int (rv_ix h0))))) fun hs => ?_) (fun hb => x_ret (ev_int.to ?_)) (fun hb => x_next ?_))
      · match c, hs with
        | .str o, _ => exact (tv_test (ev_opD (ev_opD (ev_var rfl) ev_int (rv_ix h0)) (ev_c fun _ => ops_da C) (rv_inF (neg := true) rfl (by decide) (.inl rfl)))).as (by rw [isOp_any]; rfl)
      · show Sl.dat (.int 0) = .dat (.int ((meas m (.tuple (c :: ps)) : Nat) : Int))
        rw [meas_no]
        · rfl
        · cases q : isT m (.tuple (c :: ps)) with
          | false => rfl
          | true =>
            obtain ⟨k, e, q⟩ := isT_cases q
            rcases q with ⟨z, e, q⟩ | ⟨o, ps', e, h1, h2, h3⟩
            · cases e
            · cases e
              simp [isStr, badOp, h1] at hb
      · obtain ⟨o, rfl, ho⟩ : ∃ o, c = .str o ∧ isOp o = true := by
          match c, hb with
          | .str o, hb => exact ⟨o, rfl, by simpa [isStr, badOp] using hb⟩
          | .none, hb => simp [isStr, badOp] at hb
          | .bool _, hb => simp [isStr, badOp] at hb
          | .int _, hb => simp [isStr, badOp] at hb
          | .tuple _, hb => simp [isStr, badOp] at hb
          | .list _, hb => simp [isStr, badOp] at hb
          | .dict _, hb => simp [isStr, badOp] at hb
        obtain ⟨k, rfl⟩ : ∃ k, m = k + 1 := ⟨m - 1, by omega⟩
        -- sizes = [measured(part, max_depth - 1) for part in value[1:]]
        have e1 : ((k + 1 : Nat) : Int) - 1 = (k : Int) := by omega
        refine x_seq (x_asg (EvS.to (ev_lcTm (fun p => .int (meas k p)) (ev_tail (ev_var rfl)) fun p hp => ⟨rfl, cg_name (by simp) ⟨rfl, ?_⟩⟩) ?_))
        · refine ev_callD (av_two (ev_var rfl) ((ev_opD (ev_var rfl) ev_int rv_sub).asD (by rw [e1]))) (rc_spP (p, k) rfl ⟨shortsA_mem.mp hc.2 p hp, by omega⟩ fun s e => ⟨e, rfl⟩)
        -- return 0 if 0 in sizes else sum(sizes)
        · have hl2 : ps.map (fun p => PyData.int (meas k p)) = (ps.map fun p => ((meas k p : Nat) : Int)).map PyData.int := by simp
          have hz0 : ((ps.map fun p => PyData.int (meas k p)).any fun e => PyData.eqv e (.int 0)) = decide (0 ∈ ps.map (meas k)) := by
            clear hps hds hd hsm hl hc h0 hb hl2
            induction ps with
            | nil => rfl
            | cons p ps ih =>
              rw [List.map_cons, List.any_cons, ih, List.map_cons]
              by_cases e : meas k p = 0
              · simp [PyData.eqv, e]
              · have e' : ¬ (0 = meas k p) := fun z => e z.symm
                simp [PyData.eqv, e, e']
          refine x_ret (EvS.to (s := .dat (.int ((meas (k + 1) (.tuple (.str o :: ps)) : Nat) : Int))) (ev_if (b := decide (0 ∈ ps.map (meas k))) ((tv_test (ev_opD ev_int (ev_var rfl) (rv_inF (neg := false) rfl (by simp [flatD]) (.inr rfl)))).as (by rw [← hz0]; rfl)) (fun hz => ev_int.asD ?_)
            (fun hz => EvS.asD (ev_cb1 (ev_var (s := .dat (.list ((ps.map fun p => ((meas k p : Nat) : Int)).map PyData.int))) (by rw [← hl2]; rfl)) rc_sum) ?_)) rfl)
          · rw [meas_node ho hps, if_pos (of_decide_eq_true hz)]
            rfl
          · rw [meas_node ho hps, if_neg (of_decide_eq_false hz)]
            congr 1
            clear hps hds hd hsm hl hc h0 hb hl2 hz0 hz
            induction ps with
            | nil => rfl
            | cons p ps ih =>
              rw [List.map_cons, List.sum_cons, List.map_cons, List.sum_cons, ih]
              omega
end
end Z
namespace Z
open PySem L2
/-! ### a, *b = a tuple -/
def gStar (K : PySem.W.Frag) (ts : TGs) : TG := fun v σ H Q => ∃ (a : Addr) (x : V) (xs : List V), v = .ref a ∧ SqT K H a (x :: xs) ∧ ∀ p, H p = none → ts [x, .ref p] σ (upd H p (.lst xs)) Q
section
open PySem.Spec PyProof.Rows PySem.W PySem.Calls
variable {X : Cx}
theorem pgs_star {e : Expr} {es : List Expr} {p : Pos} {t : TG} {u : TGs} (h1 : L2.PG X e t) (h2 : L2.PGs X es u) : L2.PGs X (.Starred e p :: es) (gCons t u) := by
  refine ⟨fun pins s σ H vs us Q I r h => ?_⟩
  obtain ⟨v, vr, e1, h⟩ := h
  subst e1
  cases r with
  | cons r rr =>
    have hs : (assignEach (.Starred e p :: es) X.env).map (·.2) = assign e X.env :: (assignEach es X.env).map (·.2) := by rfl
    rw [hs]
    exact assignInOrder_cons (thn (h1.run pins s σ H _ _ _ I r h) fun _ s1 ⟨σ1, H1, I1, q1⟩ => h2.run pins s1 σ1 H1 _ _ Q I1 rr q1)
theorem unpack_first {prog : Program} {w : World} {A : Around} {E : Value → Shared → Prop} {s : Shared} {l : Addr} {it0 : Value} {its : List Value} {Q : List Value → Shared → Prop} (hl : IsTup s.heap l (it0 :: its).toArray) (hh : A.handled = none) (hz : its.length + 1 ≤ sizeLine)
    (h : ∀ (h' : Heap) tk, (∀ b o, s.heap.get? b = some o → h'.get? b = some o) → Q [it0, .ref h'.objs.size] { s with heap := h'.push { cls := .type "list", data := .seq its.toArray }, toks := tk }) : wpAny (model prog w) A (unpackItems (.ref l) 2 (some 1)) Q E s := by
  have hlt : l ≠ s.heap.objs.size := let ⟨o, ho, _⟩ := hl; Nat.ne_of_lt (Heap.lt_size ho)
  unfold unpackItems
  refine wpAny_bind (m := notIterableAtAll (.ref l)) ?_
  unfold notIterableAtAll
  refine wpAny_bind (wpAny_specialOf hl.typeIs slot_tuple_iter.lookup (wpAny_pure ?_))
  simp only [Bool.false_eq_true, if_false]
  refine wpAny_bind (wpAny_holding (iter_tuple hl ?_))
  refine wpAny_bind (wpAny_holding (draw_tuple hlt 1 0 _ _ ⟨_, Heap.get?_push_size _ rfl, rfl, rfl⟩ (hl.push _) (by simp) fun h1 st1 ext1 => ?_))
  have hl1 : IsTup h1 l (it0 :: its).toArray := (hl.push _).extBut ext1.extBut hlt
  rw [Nat.zero_add] at st1
  obtain ⟨o1, ho1, _⟩ := id st1
  obtain ⟨o2, ho2, _⟩ := id hl1
  rw [if_neg (by simp)]
  refine wpAny_bind (wpAny_holding (kun_collect (s := { s with heap := h1 }) (items := (it0 :: its).toArray) (T := "tuple_iterator") (.inr (.inr (.inr rfl))) (Walks.tuple (A := A.in1) hh _ l hlt _) (fun j u st => st.1.typeIs) (k := 1) (by simp) ⟨st1, hl1⟩ (Heap.lt_size ho1) (Heap.lt_size ho2) (fun h2 tk k2 => ?_) (by simpa using hz)))
  have e1 : ((it0 :: its).toArray.toList.drop 1) = its := by simp
  have e0 : ((it0 :: its).toArray.toList.drop 0).take 1 = [it0] := by simp
  rw [e1, e0]
  show wpAny _ _ (if its.length < 0 then _ else _) _ _ _
  rw [if_neg (Nat.not_lt_zero _)]
  show wpAny _ _ (newList (its.take (its.length - 0)) >>= fun d => pure ([it0] ++ [d] ++ its.drop (its.length - 0))) _ _ _
  have e2 : its.take (its.length - 0) = its := by simp
  have e3 : its.drop (its.length - 0) = [] := by simp
  rw [e2, e3]
  refine wpAny_bind (wpAny_newObj_type (wpAny_pure ?_) (show its.length ≤ sizeLine by omega))
  exact h h2 tk fun b o e => k2 b o (Nat.ne_of_lt (Heap.lt_size e)) (ext1.extBut b o (Nat.ne_of_lt (Heap.lt_size e)) (Heap.get?_push_of_some _ e))
theorem pg_star {e1 e2 : Expr} {k : Nat} {p pos : Pos} {ts : TGs} (hc : X.calm = true) (h : L2.PGs X [e1, .Starred e2 p] ts) (hn : (assignEach [e1, .Starred e2 p] X.env).length = 2 := by rfl) (hst : (assignEach [e1, .Starred e2 p] X.env).findIdx? (·.1) = some 1 := by rfl) :
    L2.PG X (.Tuple [e1, .Starred e2 p] k pos) (gStar X.K ts) := by
  refine ⟨fun pins s σ H v u Q I r hw => ?_⟩
  obtain ⟨a, x, xs, ev, hq, hw⟩ := hw
  subst ev
  cases r
  obtain ⟨its, rv, ht, hz⟩ := I.tuple hq
  cases rv with
  | @cons _ u0 _ ur r0 rr =>
    rw [assign_Tuple]
    refine wpAny_bind (wpAny_standAt ?_)
    unfold unpack
    rw [hn, hst]
    have hlen := Paired.length rr
    refine wpAny_bind (wpAny_holding (unpack_first ht (I.ok.hd hc) (by rw [← hlen]; exact hz) fun h' tk kk => ?_))
    have I1 : Inv X pins σ H { s with heap := h', toks := tk } := I.kept kk
    have hf : H h'.objs.size = none := I1.hok.fresh (Nat.le_refl _)
    have I2 : Inv X pins σ (upd H h'.objs.size (.lst xs)) { s with heap := h'.push { cls := .type "list", data := .seq ur.toArray }, toks := tk } :=
      I1.laid (t' := tk) (fun b u e => Heap.get?_push_of_some _ e) (Nat.le_refl _) ⟨by simp at hz; omega, ur, 0, rr, Heap.get?_push_size _ rfl⟩
    exact h.run pins _ σ _ [x, .ref h'.objs.size] _ Q I2 (.cons r0 (.cons rfl .nil)) (hw _ hf)
end
section
variable {K : PySem.W.Frag} {W : Wd} {δ : List Sl} {g : W.G}
theorem gs_star {i j : Nat} {c : PyData} {ps : List PyData} {PG : List Sl → W.G → Prop} (h : PG ((δ.set i (.dat c)).set j (.dat (.list ps))) g) : GvS K W (gStar K (gCons (gName i) (gCons (gName j) gNil))) (.dat (.tuple (c :: ps))) δ g PG := fun v σ H i' r f Q q => by
  have r' : Da K W.N H v (.tuple (c :: ps)) := r
  cases r' with
  | tup x z t =>
    cases t with
    | @cons _ vr _ _ h1 h2 =>
      refine ⟨_, _, vr, rfl, x, fun p hp => ⟨_, _, rfl, _, _, rfl, rfl, ?_⟩⟩
      have st : Stp W H (upd H p (.lst vr)) := Stp.same (Same.new hp)
      exact q _ _ g _ st (W.mono i' (Same.new hp)) (((f.stp i' st).set (s := .dat c) i (Da.stp i' st h1)).set (s := .dat (.list ps)) j (new_lst i' hp (by simp at z; omega) h2)) h
end
end Z
namespace Z
open PySem L2
section
variable {P : Program} {w : World} {K : PySem.W.Frag} {mg : Str → Option Value} {base : Heap}
theorem slen {z : Str} {n : Nat} (h : (cl z).length ≤ n) (hn : n ≤ 1000000) : z.length ≤ sizeLine := by
  rw [← cl_len]
  exact Nat.le_trans h (Nat.le_trans hn (by decide))
theorem app_len (a b : Str) : (a ++ b).length = a.length + b.length := by
  rw [← cl_len, cl_app, List.length_append, cl_len, cl_len]
theorem opn_len : OPN.length = 1 := by decide +kernel
theorem cls_len : CLS.length = 1 := by decide +kernel
theorem spc_len : SPC.length = 1 := by decide +kernel
theorem les_len : LES.length = 3 := by decide +kernel
theorem op_len {o : Str} (h : isOp o = true) : o.length = 1 := by
  rw [← cl_len]
  rcases isOp_cl h with a | a <;> rw [a] <;> rfl
theorem emp_app (a : Str) : Str.empty ++ a = a := cl_inj (by rw [cl_app]; rfl)
theorem lvs_le {n : Nat} {o : Str} {ps : List PyData} {p : PyData} (hp : p ∈ ps) (h : lv (.tuple (.str o :: ps)) ≤ n) : lv p ≤ n := by
  rw [lv_node] at h
  have := le_sum (f := lv) hp
  omega
theorem wrap_str {p : PyData} {z : Str} (h : isStr p = true) : wrapd p z = z := if_pos h
theorem wrap_tup {p : PyData} {z : Str} (h : isStr p = false) : wrapd p z = OPN ++ z ++ CLS := if_neg (by rw [h]; decide)
theorem isStr_tx {p : PyData} (h : isStr p = true) : p = .str (tx p) := by
  cases p <;> simp [isStr] at h
  rw [tx_str]
/-- the sizes that join asks -/
theorem join_fits {n m : Nat} {o : Str} {ps : List PyData} (ho : isOp o = true) (h3 : ∀ p ∈ ps, isT n p = true) (hl : lv (.tuple (.str o :: ps)) ≤ 10000) : ((ps.map fun p => wrapd p (tx p)).map (·.length)).sum + (ps.map fun p => wrapd p (tx p)).length * (SPC ++ o ++ SPC).length ≤ 16777216 := by
  rw [lv_node] at hl
  have a : (ps.map fun p => (wrapd p (tx p)).length).sum ≤ (ps.map fun p => 8 * lv p).sum := sum_le fun p hp => by
    have := (tx_len (h3 p hp)).2
    have e : (pc p).length = (wrapd p (tx p)).length := cl_len _
    omega
  rw [sum_mul] at a
  have b := sum_pos (f := lv) (ps := ps) fun p hp => lv_pos (h3 p hp)
  rw [List.map_map, List.length_map, app_len, app_len, spc_len, op_len ho]
  show (ps.map fun p => (wrapd p (tx p)).length).sum + ps.length * (1 + 1 + 1) ≤ 16777216
  omega
abbrev sp_text (K : PySem.W.Frag) (n : Nat) : Sp := spP K (β := PyData) (fun d => [.dat d]) (fun d => isT n d = true ∧ lv d ≤ 10000) (fun d s => s = .dat (.str (tx d)))
theorem ok_text_of (B : Blt mg) (D_text_of : Def K mg "text_of" s_text_of p_text_of) : ∀ n, FnOk P w K mg base CX0 (n + 1) D_text_of.f D_text_of.fd p_text_of (sp_text K n) := by
  intro n
  induction n with
  | zero => exact fn_void fun x h => by simp [isT] at h
  | succ n ih =>
    have G_text_of := ih
    refine fn_okP D_text_of.fn sc_text_of (fun _ => rfl) fun cdv A outer s H E hr N d hx => ⟨_, (pss_cons (ps_if (pt_val (pe_callB (w_isi K) (by rfl) B.isinstance bt_isinstance (pa_cons (pv 0) (pa_cons (pe_bltn (v := .ty "str") (by rfl) B.str_ bt_str rfl) pa_nil)))) (pss_one (ps_ret (pv 0))) pss_nil)
  (pss_cons (ps_asg (pv 0) (pg_star rfl (pgs_cons (pg_name (i := 1) sc_text_of.nd rfl (by first | exact Or.inl rfl | exact Or.inr rfl)) (pgs_star (pg_name (i := 2) sc_text_of.nd rfl (by first | exact Or.inl rfl | exact Or.inr rfl)) pgs_nil))))
  (pss_cons (ps_setLc (i := 3) (own := [("part", 4)]) (g := gName 4) (tt := tYes) rfl sc_text_of.nd rfl rfl (sw_true rfl rfl rfl (by decide +kernel)) (pi_list (pv 2)) (blkOk_by (N := n_text_of) (sc := defScope s_text_of) (by decide +kernel)) (fun _ _ _ _ _ => (pg_name (i := 4) sc_text_of.nd rfl (by first | exact Or.inl rfl | exact Or.inr rfl))) (fun _ _ _ _ _ => pts_nil) (fun _ _ _ _ _ => (pe_ifExp (pt_val (pe_callB (w_isi K) (by rfl) B.isinstance bt_isinstance (pa_cons (pv 4) (pa_cons (pe_bltn (v := .ty "str") (by rfl) B.str_ bt_str rfl) pa_nil)))) (pv 4) (pe_joined (.cons pe_str (.cons (pe_fmt (pe_call G_text_of (hr.mono (by omega)) rfl D_text_of.g D_text_of.fn.kp D_text_of.b .nil pass0 (pa_cons (pv 4) pa_nil))) (.cons pe_str .nil)))))))
  (pss_one (ps_ret (pe_join (pe_joined (.cons pe_str (.cons (pe_fmt (pv 1)) (.cons pe_str .nil)))) (pv 3))))))), ?_⟩
    obtain ⟨h, hl⟩ := hx
    obtain ⟨k, ek, c⟩ := isT_cases h
    cases ek
    rcases c with ⟨z, rfl, hz⟩ | ⟨o, ps, rfl, h1, h2, h3⟩
    · exact x_seq (x_ifD (tv_B (ev_isStr (ev_var rfl))) (fun _ => x_ret ((ev_var rfl).to (by show Sl.dat (.str z) = .dat (.str (tx (.str z))); rw [tx_str]))) fun q => by cases q)
    refine x_seq (x_ifD (tv_B (ev_isStr (ev_var rfl))) (fun q => by cases q) fun _ => x_next ?_)
    -- operator, *parts = term
    refine x_seq (x_asgG ((ev_var rfl).to (gs_star ?_)))
    -- texts = [part if isinstance(part, str) else f'({text_of(part)})' for part in parts]
    refine x_seq (x_asg (EvS.to (ev_lcLm (fun p => .str (wrapd p (tx p))) (ev_var rfl) fun p hp => ⟨rfl, cg_name (by simp) ⟨rfl, ?_⟩⟩) ?_))
    · refine ev_if (b := isStr p) (tv_B (ev_isStr (ev_var rfl))) (fun q => (ev_var (s := .dat p) rfl).asD ?_) (fun q => ?_)
      · rw [wrap_str q]; exact isStr_tx q
      · have hlp := lvs_le hp hl
        have hlen := (tx_len (h3 p hp)).1
        have e : OPN ++ tx p ++ CLS = Str.empty ++ OPN ++ tx p ++ CLS := by rw [emp_app]
        rw [wrap_tup q, e]
        have l0 : (Str.empty ++ OPN).length = 1 := by rw [emp_app]; exact opn_len
        have l1 : (tx p).length ≤ 80000 := by rw [← cl_len]; omega
        have l2 : (Str.empty ++ OPN ++ tx p).length ≤ 80001 := by rw [app_len, l0]; omega
        refine ev_js (.cons ev_str (Nat.le_trans (Nat.le_of_eq l0) (by decide)) (.cons (ev_fmt (ev_callD (av_one (ev_var rfl)) (rc_spP p rfl ⟨h3 p hp, hlp⟩ fun s e => ⟨e, rfl⟩)) (Nat.le_trans l1 (by decide))) (Nat.le_trans l2 (by decide)) (.cons ev_str ?_ .nil)))
        rw [app_len, cls_len]
        exact Nat.le_trans (Nat.succ_le_succ l2) (by decide)
    -- return f' {operator} '.join(texts)
    · have hm : ps.map (fun p => PyData.str (wrapd p (tx p))) = (ps.map fun p => wrapd p (tx p)).map PyData.str := by simp
      have e : SPC ++ o ++ SPC = Str.empty ++ SPC ++ o ++ SPC := by rw [emp_app]
      have l0 : (Str.empty ++ SPC).length = 1 := by rw [emp_app]; exact spc_len
      have lo := op_len h1
      refine x_ret (EvS.to (s := .dat (.str (tx (.tuple (.str o :: ps))))) (EvS.asD (ev_join (z := SPC ++ o ++ SPC) (ys := ps.map fun p => wrapd p (tx p)) ?_ (ev_var (s := .dat (.list ((ps.map fun p => wrapd p (tx p)).map PyData.str))) (by rw [← hm]; rfl)) (join_fits (m := 0) h1 h3 hl)) ?_) rfl)
      · rw [e]
        refine ev_js (.cons ev_str (Nat.le_trans (Nat.le_of_eq l0) (by decide)) (.cons (ev_fmt (ev_var rfl) (by rw [lo]; decide)) (by rw [app_len, l0, lo]; decide) (.cons ev_str (by rw [app_len, app_len, l0, lo, spc_len]; decide) .nil)))
      · rw [tx_node, TL.join_eq]
theorem ok_L_text (B : Blt mg) (D_L_text : Def K mg "_law_text" s_L_text p_L_text) : ∀ n, FnOk P w K mg base CX0 (n + 1) D_L_text.f D_L_text.fd p_L_text (sp_text K n) := by
  intro n
  induction n with
  | zero => exact fn_void fun x h => by simp [isT] at h
  | succ n ih =>
    have G_L_text := ih
    refine fn_okP D_L_text.fn sc_L_text (fun _ => rfl) fun cdv A outer s H E hr N d hx => ⟨_, (pss_cons (ps_if (pt_val (pe_callB (w_isi K) (by rfl) B.isinstance bt_isinstance (pa_cons (pv 0) (pa_cons (pe_bltn (v := .ty "str") (by rfl) B.str_ bt_str rfl) pa_nil)))) (pss_one (ps_ret (pv 0))) pss_nil)
  (pss_cons (ps_setLc (i := 1) (own := [("_law_one", 2)]) (g := gName 2) (tt := tYes) rfl sc_L_text.nd rfl rfl (sw_true rfl rfl rfl (by decide +kernel)) (pi_tup (pe_slice (w_slT K) (pv 0) (po_some pe_int) po_none)) (blkOk_by (N := n_L_text) (sc := defScope s_L_text) (by decide +kernel)) (fun _ _ _ _ _ => (pg_name (i := 2) sc_L_text.nd rfl (by first | exact Or.inl rfl | exact Or.inr rfl))) (fun _ _ _ _ _ => pts_nil) (fun _ _ _ _ _ => (pe_ifExp (pt_val (pe_callB (w_isi K) (by rfl) B.isinstance bt_isinstance (pa_cons (pv 2) (pa_cons (pe_bltn (v := .ty "str") (by rfl) B.str_ bt_str rfl) pa_nil)))) (pv 2) (pe_op op_add_str (pe_op op_add_str pe_str (pe_call G_L_text (hr.mono (by omega)) rfl D_L_text.g D_L_text.fn.kp D_L_text.b .nil pass0 (pa_cons (pv 2) pa_nil))) pe_str))))
  (pss_one (ps_ret (pe_join (pe_op op_add_str (pe_op op_add_str pe_str (pe_ix (w_ix K) (pv 0) pe_int (fun _ _ => rfl))) pe_str) (pv 1)))))), ?_⟩
    obtain ⟨h, hl⟩ := hx
    obtain ⟨k, ek, c⟩ := isT_cases h
    cases ek
    rcases c with ⟨z, rfl, hz⟩ | ⟨o, ps, rfl, h1, h2, h3⟩
    · exact x_seq (x_ifD (tv_B (ev_isStr (ev_var rfl))) (fun _ => x_ret ((ev_var rfl).to (by show Sl.dat (.str z) = .dat (.str (tx (.str z))); rw [tx_str]))) fun q => by cases q)
    refine x_seq (x_ifD (tv_B (ev_isStr (ev_var rfl))) (fun q => by cases q) fun _ => x_next ?_)
    refine x_seq (x_asg (EvS.to (ev_lcTm (fun p => .str (wrapd p (tx p))) (ev_tail (ev_var rfl)) fun p hp => ⟨rfl, cg_name (by simp) ⟨rfl, ?_⟩⟩) ?_))
    · refine ev_if (b := isStr p) (tv_B (ev_isStr (ev_var rfl))) (fun q => (ev_var (s := .dat p) rfl).asD ?_) (fun q => ?_)
      · rw [wrap_str q]; exact isStr_tx q
      · have hlp := lvs_le hp hl
        have hlen := (tx_len (h3 p hp)).1
        rw [wrap_tup q]
        have l1 : (tx p).length ≤ 80000 := by rw [← cl_len]; omega
        have l2 : (OPN ++ tx p).length ≤ 80001 := by rw [app_len, opn_len]; omega
        refine ev_opD (ev_opD ev_str (ev_callD (av_one (ev_var rfl)) (rc_spP p rfl ⟨h3 p hp, hlp⟩ fun s e => ⟨e, rfl⟩)) (rv_addStr (by rw [opn_len]; exact Nat.le_trans (Nat.add_le_add_left l1 1) (by decide)))) ev_str (rv_addStr (by rw [cls_len]; exact Nat.le_trans (Nat.succ_le_succ l2) (by decide)))
    · have hm : ps.map (fun p => PyData.str (wrapd p (tx p))) = (ps.map fun p => wrapd p (tx p)).map PyData.str := by simp
      have lo := op_len h1
      have h0 : atD (.tuple (.str o :: ps)) 0 = some (.str o) := by
        show atI (PyData.str o :: ps) 0 = some (.str o)
        exact atI_nat (j := 0) rfl
      refine x_ret (EvS.to (s := .dat (.str (tx (.tuple (.str o :: ps))))) (EvS.asD (ev_join (z := SPC ++ o ++ SPC) (ys := ps.map fun p => wrapd p (tx p)) ?_ (ev_var (s := .dat (.list ((ps.map fun p => wrapd p (tx p)).map PyData.str))) (by rw [← hm]; rfl)) (join_fits (m := 0) h1 h3 hl)) ?_) rfl)
      · exact ev_opD (ev_opD ev_str (ev_opD (ev_var rfl) ev_int (rv_ix h0)) (rv_addStr (by rw [spc_len, lo]; decide))) ev_str (rv_addStr (by rw [app_len, spc_len, lo]; decide))
      · rw [tx_node, TL.join_eq]
end
end Z
namespace Z
open PySem L2
/-! the law's plain helpers over terms -/
def partsD : PyData → List PyData
  | .tuple (_ :: ps) => ps
  | _ => []
mutual
/-- a term and all within, in order -/
def wk : PyData → List PyData
  | .tuple ds => .tuple ds :: wkT ds
  | d => [d]
def wkT : List PyData → List PyData
  | [] => []
  | _ :: ps => wks ps
def wks : List PyData → List PyData
  | [] => []
  | p :: ps => wk p ++ wks ps
end
theorem wk_node (c : PyData) (ps : List PyData) : wk (.tuple (c :: ps)) = .tuple (c :: ps) :: wks ps := by rw [wk, wkT]
theorem wk_str (z : Str) : wk (.str z) = [.str z] := by simp [wk]
theorem wks_app : ∀ (a b : List PyData), wks (a ++ b) = wks a ++ wks b
  | [], b => by simp [wks]
  | p :: a, b => by simp [wks, wks_app a b]
theorem wks_len : ∀ ps : List PyData, (wks ps).length = (ps.map fun p => (wk p).length).sum
  | [] => by simp [wks]
  | p :: ps => by simp [wks, wks_len ps]
theorem wk_len : ∀ {n : Nat} {d : PyData}, isT n d = true → (wk d).length + 1 ≤ 2 * lv d := by
  intro n
  induction n with
  | zero => intro d h; simp [isT] at h
  | succ n ih =>
    intro d h
    obtain ⟨k, ek, h⟩ := isT_cases h
    cases ek
    rcases h with ⟨z, rfl, hz⟩ | ⟨o, ps, rfl, h1, h2, h3⟩
    · rw [wk_str, lv_str]; simp
    · rw [wk_node, lv_node, List.length_cons, wks_len]
      have a : (ps.map fun p => (wk p).length + 1).sum ≤ (ps.map fun p => 2 * lv p).sum := sum_le fun p hp => ih (h3 p hp)
      rw [sum_add, sum_mul] at a
      omega
def opAt (k : Nat) : Str := if k % 2 = 0 then AMP else BAR
def nestD : Nat → PyData
  | 0 => .str "a"
  | k + 1 => .tuple [.str (opAt k), nestD k, .str "b"]
section
variable {P : Program} {w : World} {K : PySem.W.Frag} {mg : Str → Option Value} {base : Heap}
theorem at0 {c : PyData} {ps : List PyData} : atD (.tuple (c :: ps)) 0 = some c := by
  show atI (c :: ps) 0 = some c
  exact atI_nat (j := 0) rfl
abbrev sp_L_parts (K : PySem.W.Frag) : Sp := spP K (β := PyData) (fun d => [.dat d]) (fun d => ∃ n, isT n d = true) (fun d s => s = .dat (.list (partsD d)))
theorem ok_L_parts (B : Blt mg) (D_L_parts : Def K mg "_law_parts" s_L_parts p_L_parts) : FnOk P w K mg base CX0 1 D_L_parts.f D_L_parts.fd p_L_parts (sp_L_parts K) := by
  refine fn_okP D_L_parts.fn sc_L_parts (fun _ => rfl) fun cdv A outer s H E hr N d hx => ⟨_, (pss_one (ps_ret (pe_ifExp (pt_val (pe_callB (w_isi K) (by rfl) B.isinstance bt_isinstance (pa_cons (pv 0) (pa_cons (pe_bltn (v := .ty "str") (by rfl) B.str_ bt_str rfl) pa_nil)))) (pe_lst pa_nil) (pe_callTy (w_list K) (by rfl) B.list_ bt_list (pa_cons (pe_slice (w_slT K) (pv 0) (po_some pe_int) po_none) pa_nil))))), ?_⟩
  obtain ⟨n, h⟩ := hx
  obtain ⟨k, ek, c⟩ := isT_cases h
  rcases c with ⟨z, rfl, hz⟩ | ⟨o, ps, rfl, h1, h2, h3⟩
  · exact x_ret (EvS.to (ev_if (tv_B (ev_isStr (ev_var rfl))) (fun _ => ev_lst (ds := []) av_nil) fun q => by cases q) rfl)
  · exact x_ret (EvS.to (ev_if (tv_B (ev_isStr (ev_var rfl))) (fun q => by cases q) fun _ => ev_cb1 (ev_tail (ev_var rfl)) rc_listT) rfl)
abbrev sp_L_leaves (K : PySem.W.Frag) (n : Nat) : Sp := spP K (β := PyData) (fun d => [.dat d]) (fun d => isT n d = true) (fun d s => s = .dat (.int (lv d)))
theorem sum_int (f : PyData → Nat) : ∀ ps : List PyData, (ps.map fun p => ((f p : Nat) : Int)).sum = (((ps.map f).sum : Nat) : Int)
  | [] => rfl
  | p :: ps => by
    rw [List.map_cons, List.sum_cons, List.map_cons, List.sum_cons, sum_int f ps]
    omega
theorem ok_L_leaves (B : Blt mg) (D_L_leaves : Def K mg "_law_leaves" s_L_leaves p_L_leaves) : ∀ n, FnOk P w K mg base CX0 (n + 1) D_L_leaves.f D_L_leaves.fd p_L_leaves (sp_L_leaves K n) := by
  intro n
  induction n with
  | zero => exact fn_void fun x h => by simp [isT] at h
  | succ n ih =>
    have G_L_leaves := ih
    refine fn_okP D_L_leaves.fn sc_L_leaves (fun _ => rfl) fun cdv A outer s H E hr N d h => ⟨_, (pss_one (ps_ret (pe_ifExp (pt_val (pe_callB (w_isi K) (by rfl) B.isinstance bt_isinstance (pa_cons (pv 0) (pa_cons (pe_bltn (v := .ty "str") (by rfl) B.str_ bt_str rfl) pa_nil)))) pe_int (pe_callB (w_sum K rfl) (by rfl) B.sum bt_sum (pa_cons (pe_lc (own := [("_law_one", 1)]) (g := gName 1) (tt := tYes) (by rfl) sc_L_leaves.nd (pi_tup (pe_slice (w_slT K) (pv 0) (po_some pe_int) po_none)) (blkOk_by (N := n_L_leaves) (sc := defScope s_L_leaves) (by decide +kernel)) (fun _ _ _ _ _ => (pg_name (i := 1) sc_L_leaves.nd rfl (by first | exact Or.inl rfl | exact Or.inr rfl))) (fun _ _ _ _ _ => pts_nil) (fun _ _ _ _ _ => (pe_call G_L_leaves (hr.mono (by omega)) rfl D_L_leaves.g D_L_leaves.fn.kp D_L_leaves.b .nil pass0 (pa_cons (pv 1) pa_nil)))) pa_nil))))), ?_⟩
    obtain ⟨k, ek, c⟩ := isT_cases h
    cases ek
    rcases c with ⟨z, rfl, hz⟩ | ⟨o, ps, rfl, h1, h2, h3⟩
    · exact x_ret (EvS.to (ev_if (tv_B (ev_isStr (ev_var rfl))) (fun _ => ev_int) fun q => by cases q) (by show Sl.dat (.int 1) = .dat (.int ((lv (.str z) : Nat) : Int)); rw [lv_str]; rfl))
    · have hm : ps.map (fun p => PyData.int (lv p)) = (ps.map fun p => ((lv p : Nat) : Int)).map PyData.int := by simp
      refine x_ret (EvS.to (ev_if (tv_B (ev_isStr (ev_var rfl))) (fun q => by cases q) fun _ => ev_cb1 (s := .dat (.list ((ps.map fun p => ((lv p : Nat) : Int)).map PyData.int))) ((ev_lcTm (fun p => .int (lv p)) (ev_tail (ev_var rfl)) fun p hp => ⟨rfl, cg_name (by simp) ⟨rfl, ?_⟩⟩).as (by rw [hm])) rc_sum) ?_)
      · exact ev_callD (av_one (ev_var rfl)) (rc_spP p rfl (h3 p hp) fun s e => ⟨e, rfl⟩)
      · show Sl.dat (.int _) = .dat (.int ((lv (.tuple (.str o :: ps)) : Nat) : Int))
        rw [lv_node, sum_int]
abbrev sp_L_walk (K : PySem.W.Frag) (n : Nat) : Sp := spP K (β := PyData) (fun d => [.dat d]) (fun d => isT n d = true ∧ lv d ≤ 10000) (fun d s => s = .dat (.list (wk d)))
theorem ok_L_walk (B : Blt mg) (D_L_walk : Def K mg "_law_walk" s_L_walk p_L_walk) (D_L_parts : Def K mg "_law_parts" s_L_parts p_L_parts) : ∀ n, FnOk P w K mg base CX0 (n + 1) D_L_walk.f D_L_walk.fd p_L_walk (sp_L_walk K n) := by
  intro n
  have G_L_parts : FnOk P w K mg base CX0 1 D_L_parts.f D_L_parts.fd p_L_parts (sp_L_parts K) := ok_L_parts B D_L_parts
  induction n with
  | zero => exact fn_void fun x h => by simp [isT] at h
  | succ n ih =>
    have G_L_walk := ih
    refine fn_okP D_L_walk.fn sc_L_walk (fun _ => rfl) fun cdv A outer s H E hr N d hx => ⟨_, (pss_cons (ps_set (i := 1) sc_L_walk.nd rfl (by first | exact Or.inl rfl | exact Or.inr rfl) (pe_lst (pa_cons (pv 0) pa_nil)))
  (pss_cons (ps_for PassesOwn.never rfl (pi_list (pe_call G_L_parts (hr.mono (by omega)) rfl D_L_parts.g D_L_parts.fn.kp D_L_parts.b .nil pass0 (pa_cons (pv 0) pa_nil))) (pg_name (i := 2) sc_L_walk.nd rfl (by first | exact Or.inl rfl | exact Or.inr rfl)) (pss_one (ps_set (i := 1) sc_L_walk.nd rfl (by first | exact Or.inl rfl | exact Or.inr rfl) (pe_op op_cat (pv 1) (pe_call G_L_walk (hr.mono (by omega)) rfl D_L_walk.g D_L_walk.fn.kp D_L_walk.b .nil pass0 (pa_cons (pv 2) pa_nil))))))
  (pss_one (ps_ret (pv 1))))), ?_⟩
    obtain ⟨h, hl⟩ := hx
    have hwl := wk_len h
    have hw : wk d = d :: wks (partsD d) := by
      obtain ⟨k, ek, c⟩ := isT_cases h
      rcases c with ⟨z, rfl, hz⟩ | ⟨o, ps, rfl, h1, h2, h3⟩
      · rw [wk_str]; simp [partsD, wks]
      · rw [wk_node]; rfl
    have hp : ∀ p ∈ partsD d, isT n p = true ∧ lv p ≤ 10000 := by
      obtain ⟨k, ek, c⟩ := isT_cases h
      cases ek
      rcases c with ⟨z, rfl, hz⟩ | ⟨o, ps, rfl, h1, h2, h3⟩
      · intro p hp; cases hp
      · exact fun p hp => ⟨h3 p hp, lvs_le hp hl⟩
    refine x_seq (x_asg (EvS.to (ev_lst (ds := [d]) (av_one (ev_var rfl))) ?_))
    refine x_seq (x_forL (ds := partsD d) (ev_callD (av_one (ev_var rfl)) (rc_spP d rfl ⟨_, h⟩ fun s e => ⟨e, rfl⟩)) (fun i δ' g' => ∃ x, δ' = [.dat d, .dat (.list (d :: wks ((partsD d).take i))), x]) ⟨.no, by simp [wks]; rfl⟩ (fun i p δ' g' hi hJ => ?_) fun δ' g' hJ => ?_)
    · obtain ⟨x, rfl⟩ := hJ
      obtain ⟨hpT, hpl⟩ := hp p (List.mem_of_getElem? hi)
      have e1 : wks ((partsD d).take (i + 1)) = wks ((partsD d).take i) ++ wk p := by
        rw [List.take_add_one, hi, wks_app]
        simp [wks]
      have hz : (d :: wks ((partsD d).take i)).length + (wk p).length ≤ sizeLine := by
        have e2 : (wks ((partsD d).take (i + 1))).length ≤ (wks (partsD d)).length := by
          have e3 : wks (partsD d) = wks ((partsD d).take (i + 1)) ++ wks ((partsD d).drop (i + 1)) := by rw [← wks_app, List.take_append_drop]
          rw [e3, List.length_append]
          omega
        rw [e1, List.length_append] at e2
        rw [hw, List.length_cons] at hwl
        rw [List.length_cons]
        exact Nat.le_trans (show _ ≤ 20000 by omega) (by decide)
      refine gs_name (x_asg (EvS.to (ev_opD (ev_var rfl) (ev_callD (av_one (ev_var rfl)) (rc_spP p rfl ⟨hpT, hpl⟩ fun s e => ⟨e, rfl⟩)) (rv_cat hz)) ⟨.dat p, ?_⟩))
      rw [e1]
      rfl
    · obtain ⟨x, rfl⟩ := hJ
      refine x_ret (EvS.to (ev_var rfl) ?_)
      rw [List.take_length, hw]
/-- an index below a place -/
abbrev sp_L_index (K : PySem.W.Frag) : Sp := spP K (β := Nat × Nat) (fun x => [.dat (.int x.1), .dat (.int x.2)]) (fun x => x.1 < x.2) (fun x s => s = .dat (.bool true))
theorem ok_L_index (B : Blt mg) (D_L_index : Def K mg "_law_index" s_L_index p_L_index) : FnOk P w K mg base CX0 1 D_L_index.f D_L_index.fd p_L_index (sp_L_index K) := by
  refine fn_okP D_L_index.fn sc_L_index (fun _ => rfl) fun cdv A outer s H E hr N x hx => ⟨_, (pss_one (ps_ret (pe_and (pe_callB (w_isi K) (by rfl) B.isinstance bt_isinstance (pa_cons (pv 0) (pa_cons (pe_bltn (v := .ty "int") (by rfl) B.int_ bt_int rfl) pa_nil))) (pe_and (pe_not (pe_callB (w_isi K) (by rfl) B.isinstance bt_isinstance (pa_cons (pv 0) (pa_cons (pe_bltn (v := .ty "bool") (by rfl) B.bool_ bt_bool rfl) pa_nil)))) (pe_one (pe_chain op_le op_lt pe_int (pv 0) (pv 1))))))), ?_⟩
  obtain ⟨i, n⟩ := x
  have hx : i < n := hx
  refine x_ret (EvS.to (ev_and (ev_isInt (ev_var rfl)) fun _ => ev_and (b := true) (ev_not (ev_isBool (ev_var rfl))) fun _ => EvS.asD (ev_chain ev_int (ev_var rfl) rv_le (fun _ => ev_var rfl) fun _ => rv_lt) ?_) rfl)
  show PyData.bool (decide ((0 : Int) ≤ (i : Int)) && decide ((i : Int) < (n : Int))) = .bool true
  rw [decide_eq_true (by omega), decide_eq_true (by omega)]
  rfl
theorem ops2 : ([PyData.str AMP, .str BAR] : List PyData).all flatD = true := rfl
abbrev sp_L_long (K : PySem.W.Frag) (n : Nat) : Sp := spP K (β := PyData × Nat) (fun x => [.dat x.1, .dat (.int x.2)]) (fun x => x.2 ≤ n ∧ isT x.2 x.1 = true) (fun x s => s = .dat (.bool true))
theorem let_in {z : Str} (h : isLetS z = true) : ∃ c, z = ⟨#[c]⟩ ∧ decide (c ∈ LETTERS.cps.toList) = true := by
  obtain ⟨c, e, h1, h2⟩ := isLetS_iff.mp h
  exact ⟨c, e, decide_eq_true (mem_letters.mpr ⟨h1, h2⟩)⟩
theorem one_len (c : Nat) : (1 : Nat) ≤ sizeLine := by decide
theorem ok_L_long (B : Blt mg) (D_L_long : Def K mg "_law_long" s_L_long p_L_long) : ∀ n, FnOk P w K mg base CX0 (n + 1) D_L_long.f D_L_long.fd p_L_long (sp_L_long K n) := by
  intro n
  induction n with
  | zero =>
    refine fn_void fun x h => ?_
    obtain ⟨N, d, m⟩ := x
    obtain ⟨h1, h2⟩ : m ≤ 0 ∧ isT m d = true := h
    rw [Nat.le_zero.mp h1] at h2
    simp [isT] at h2
  | succ n ih =>
    have G_L_long := ih
    refine fn_okP D_L_long.fn sc_L_long (fun _ => rfl) fun cdv A outer s H E hr N x hx => ⟨_, (pss_cons (ps_if (pt_val (pe_callB (w_isi K) (by rfl) B.isinstance bt_isinstance (pa_cons (pv 0) (pa_cons (pe_bltn (v := .ty "str") (by rfl) B.str_ bt_str rfl) pa_nil)))) (pss_one (ps_ret (pe_and (pe_cmpR (w_eqD K hr.units) (pe_callB (w_len K) (by rfl) B.len bt_len (pa_cons (pv 0) pa_nil)) pe_int (nomark _)) (pe_one (pe_cmpR op_in_sign (pv 0) pe_str (by rfl)))))) pss_nil)
  (pss_cons (ps_if (PW.pt (pw_or (pt_cmpR op_lt (pv 1) pe_int (nomark _)) (pw_or (pt_not (pt_val (pe_callB (w_isi K) (by rfl) B.isinstance bt_isinstance (pa_cons (pv 0) (pa_cons (pe_bltn (v := .ty "tuple") (by rfl) B.tuple_ bt_tuple rfl) pa_nil))))) (pw_or (pt_cmpR op_lt (pe_callB (w_len K) (by rfl) B.len bt_len (pa_cons (pv 0) pa_nil)) pe_int (nomark _)) (pw_or1 (pt_cmpR (w_notIn K) (pe_ix (w_ix K) (pv 0) pe_int (fun _ _ => rfl)) (pe_tup (pa_cons pe_str (pa_cons pe_str pa_nil))) (by rfl))))))) (pss_one (ps_ret pe_bl)) pss_nil)
  (pss_one (ps_ret (pe_callB (w_all K rfl) (by rfl) B.all bt_all (pa_cons (pe_lc (own := [("_law_one", 2)]) (g := gName 2) (tt := tYes) (by rfl) sc_L_long.nd (pi_tup (pe_slice (w_slT K) (pv 0) (po_some pe_int) po_none)) (blkOk_by (N := n_L_long) (sc := defScope s_L_long) (by decide +kernel)) (fun _ _ _ _ _ => (pg_name (i := 2) sc_L_long.nd rfl (by first | exact Or.inl rfl | exact Or.inr rfl))) (fun _ _ _ _ _ => pts_nil) (fun _ _ _ _ _ => (pe_call G_L_long (hr.mono (by omega)) rfl D_L_long.g D_L_long.fn.kp D_L_long.b .nil pass0 (pa_cons (pv 2) (pa_cons (pe_op op_sub (pv 1) pe_int) pa_nil))))) pa_nil)))))), ?_⟩
    obtain ⟨d, m⟩ := x
    obtain ⟨hm, h⟩ := hx
    dsimp only at hm h ⊢
    obtain ⟨k, ek, c⟩ := isT_cases h
    subst ek
    rcases c with ⟨z, rfl, hz⟩ | ⟨o, ps, rfl, h1, h2, h3⟩
    · obtain ⟨c, rfl, hc⟩ := let_in hz
      refine x_seq (x_ifD (tv_B (ev_isStr (ev_var rfl))) (fun _ => x_ret (EvS.to (ev_and (a := true) (b := decide (c ∈ LETTERS.cps.toList)) (EvS.asD (ev_opD (ev_len (ev_var rfl) (n := 1) rfl (fun z e => by cases e; exact one_len c)) ev_int (rv_eqD (by decide +kernel) (by decide +kernel))) rfl) fun _ => ev_opD (ev_var rfl) ev_str rv_inSign) ?_)) fun q => by cases q)
      show Sl.dat (.bool (true && decide (c ∈ LETTERS.cps.toList))) = .dat (.bool true)
      rw [hc]
      rfl
    · have hk : 1 ≤ k := by
        cases ps with
        | nil => simp at h2
        | cons p ps =>
          have := h3 p List.mem_cons_self
          cases k with
          | zero => simp [isT] at this
          | succ k => omega
      have e1 : ((k + 1 : Nat) : Int) - 1 = (k : Int) := by omega
      refine x_seq (x_ifD (tv_B (ev_isStr (ev_var rfl))) (fun q => by cases q) fun _ => x_next ?_)
      refine x_seq (x_ifD (b := false) (TvS.as (tv_or (tv_test (ev_opD (ev_var rfl) ev_int rv_lt)) fun _ => tv_or (tv_not (tv_B (ev_isTup (ev_var rfl)))) fun _ => tv_or (tv_test (ev_opD (ev_len (ev_var rfl) (n := ps.length + 1) rfl) ev_int rv_lt)) fun _ => tv_test (ev_opD (ev_opD (ev_var rfl) ev_int (rv_ix at0)) (ev_tup (ds := [.str AMP, .str BAR]) (av_two ev_str ev_str)) (rv_inF (neg := true) rfl ops2 (.inl rfl)))) ?_) (fun q => by cases q) fun _ => x_next ?_)
      · rw [isOp_any, h1, decide_eq_false (by omega), decide_eq_false (by omega)]
        rfl
      have hm2 : ps.map (fun _ => PyData.bool true) = (ps.map fun _ => true).map PyData.bool := by simp
      refine x_ret (EvS.to (ev_cb1 (s := .dat (.list ((ps.map fun _ => true).map PyData.bool))) ((ev_lcTm (fun _ => .bool true) (ev_tail (ev_var rfl)) fun p hp => ⟨rfl, cg_name (by simp) ⟨rfl, ?_⟩⟩).as (by rw [hm2])) rc_all) ?_)
      · exact ev_callD (av_two (ev_var rfl) ((ev_opD (ev_var rfl) ev_int rv_sub).asD (by rw [e1]))) (rc_spP (p, k) rfl ⟨by show k ≤ n; omega, h3 p hp⟩ fun s e => ⟨e, rfl⟩)
      · show Sl.dat (.bool _) = .dat (.bool true)
        simp
end
end Z
namespace Z
open PySem L2
section
variable {P : Program} {w : World} {K : PySem.W.Frag} {mg : Str → Option Value} {base : Heap}
theorem any0 {f : PyData → Nat} {ps : List PyData} : ((ps.map fun p => PyData.int (f p)).any fun e => PyData.eqv e (.int 0)) = decide (0 ∈ ps.map f) := by
  induction ps with
  | nil => rfl
  | cons p ps ih =>
    rw [List.map_cons, List.any_cons, ih, List.map_cons]
    by_cases e : f p = 0
    · simp [PyData.eqv, e]
    · have e' : ¬ (0 = f p) := fun z => e z.symm
      simp [PyData.eqv, e, e']
/-- terms of any depth up to n -/
abbrev sp_L_measure (K : PySem.W.Frag) (n : Nat) : Sp := spP K (β := PyData × Nat) (fun x => [.dat x.1, .dat (.int x.2)]) (fun x => isT n x.1 = true) (fun x s => s = .dat (.int (meas x.2 x.1)))
theorem ok_L_measure (B : Blt mg) (D_L_measure : Def K mg "_law_measure" s_L_measure p_L_measure) : ∀ n, FnOk P w K mg base CX0 (n + 1) D_L_measure.f D_L_measure.fd p_L_measure (sp_L_measure K n) := by
  intro n
  induction n with
  | zero => exact fn_void fun x h => by simp [isT] at h
  | succ n ih =>
    have G_L_measure := ih
    refine fn_okP D_L_measure.fn sc_L_measure (fun _ => rfl) fun cdv A outer s H E hr N x hx => ⟨_, (pss_cons (ps_if (pt_val (pe_callB (w_isi K) (by rfl) B.isinstance bt_isinstance (pa_cons (pv 0) (pa_cons (pe_bltn (v := .ty "str") (by rfl) B.str_ bt_str rfl) pa_nil)))) (pss_one (ps_ret (pe_callTy call_int1 (by rfl) B.int_ bt_int (pa_cons (pe_and (pe_cmpR (w_eqD K hr.units) (pe_callB (w_len K) (by rfl) B.len bt_len (pa_cons (pv 0) pa_nil)) pe_int (nomark _)) (pe_and (pe_cmpR op_in_sign (pv 0) pe_str (by rfl)) (pe_one (pe_cmpR op_gt (pv 1) pe_int (nomark _))))) pa_nil)))) pss_nil)
  (pss_cons (ps_if (PW.pt (pw_or (pt_cmpR op_lt (pv 1) pe_int (nomark _)) (pw_or (pt_not (pt_val (pe_callB (w_isi K) (by rfl) B.isinstance bt_isinstance (pa_cons (pv 0) (pa_cons (pe_bltn (v := .ty "tuple") (by rfl) B.tuple_ bt_tuple rfl) pa_nil))))) (pw_or (pt_cmpR op_lt (pe_callB (w_len K) (by rfl) B.len bt_len (pa_cons (pv 0) pa_nil)) pe_int (nomark _)) (pw_or1 (pt_cmpR (w_notIn K) (pe_ix (w_ix K) (pv 0) pe_int (fun _ _ => rfl)) (pe_tup (pa_cons pe_str (pa_cons pe_str pa_nil))) (by rfl))))))) (pss_one (ps_ret pe_int)) pss_nil)
  (pss_cons (ps_setLc (i := 2) (own := [("_law_one", 3)]) (g := gName 3) (tt := tYes) rfl sc_L_measure.nd rfl rfl (sw_true rfl rfl rfl (by decide +kernel)) (pi_tup (pe_slice (w_slT K) (pv 0) (po_some pe_int) po_none)) (blkOk_by (N := n_L_measure) (sc := defScope s_L_measure) (by decide +kernel)) (fun _ _ _ _ _ => (pg_name (i := 3) sc_L_measure.nd rfl (by first | exact Or.inl rfl | exact Or.inr rfl))) (fun _ _ _ _ _ => pts_nil) (fun _ _ _ _ _ => (pe_call G_L_measure (hr.mono (by omega)) rfl D_L_measure.g D_L_measure.fn.kp D_L_measure.b .nil pass0 (pa_cons (pv 3) (pa_cons (pe_op op_sub (pv 1) pe_int) pa_nil)))))
  (pss_one (ps_ret (pe_ifExp (pt_cmpR (w_in K) pe_int (pv 2) (by rfl)) pe_int (pe_callB (w_sum K rfl) (by rfl) B.sum bt_sum (pa_cons (pv 2) pa_nil)))))))), ?_⟩
    obtain ⟨d, m⟩ := x
    have h : isT (n + 1) d = true := hx
    dsimp only
    obtain ⟨k, ek, c⟩ := isT_cases h
    cases ek
    rcases c with ⟨z, rfl, hz⟩ | ⟨o, ps, rfl, h1, h2, h3⟩
    · obtain ⟨c, rfl, hc⟩ := let_in hz
      refine x_seq (x_ifD (tv_B (ev_isStr (ev_var rfl))) (fun _ => x_ret (EvS.to (ev_cb1 (ev_and (a := true) (b := decide (c ∈ LETTERS.cps.toList) && decide ((0 : Int) < (m : Int))) (EvS.asD (ev_opD (ev_len (ev_var rfl) (n := 1) rfl (fun z e => by cases e; exact one_len c)) ev_int (rv_eqD (by decide +kernel) (by decide +kernel))) rfl) fun _ => ev_and (ev_opD (ev_var rfl) ev_str rv_inSign) fun _ => ev_opD (ev_var rfl) ev_int rv_gt) rc_intB) ?_)) fun q => by cases q)
      show Sl.dat (.int (if (true && (decide (c ∈ LETTERS.cps.toList) && decide ((0 : Int) < (m : Int)))) = true then 1 else 0)) = .dat (.int ((meas m (.str ⟨#[c]⟩) : Nat) : Int))
      rw [hc]
      unfold meas
      rw [isT_str, hz, lv_str]
      by_cases h0 : 0 < m
      · rw [decide_eq_true h0, decide_eq_true (show (0 : Int) < (m : Int) by omega)]; rfl
      · rw [decide_eq_false h0, decide_eq_false (show ¬ (0 : Int) < (m : Int) by omega)]; rfl
    refine x_seq (x_ifD (tv_B (ev_isStr (ev_var rfl))) (fun q => by cases q) fun _ => x_next ?_)
    refine x_seq (x_ifD (b := decide ((m : Int) < 2)) (TvS.as (tv_or (b := false) (tv_test (ev_opD (ev_var rfl) ev_int rv_lt)) fun _ => TvS.as (tv_or (tv_not (tv_B (ev_isTup (ev_var rfl)))) fun _ => tv_or (tv_test (ev_opD (ev_len (ev_var rfl) (n := ps.length + 1) rfl) ev_int rv_lt)) fun _ => tv_test (ev_opD (ev_opD (ev_var rfl) ev_int (rv_ix at0)) (ev_tup (ds := [.str AMP, .str BAR]) (av_two ev_str ev_str)) (rv_inF (neg := true) rfl ops2 (.inl rfl)))) ?_) (by rw [Bool.or_false])) (fun q => x_ret (ev_int.to ?_)) fun q => x_next ?_)
    · rw [isOp_any, h1, decide_eq_false (by omega)]
      rfl
    · show Sl.dat (.int 0) = .dat (.int ((meas m (.tuple (.str o :: ps)) : Nat) : Int))
      have q' := of_decide_eq_true q
      rw [meas_no]
      · rfl
      · match m, q' with
        | 0, _ => rfl
        | 1, _ =>
          rw [isT_node]
          match ps, h2 with
          | p :: ps, _ => simp [isT]
        | m + 2, q' => omega
    · have q' := of_decide_eq_false q
      obtain ⟨k, rfl⟩ : ∃ k, m = k + 1 := ⟨m - 1, by omega⟩
      have e1 : ((k + 1 : Nat) : Int) - 1 = (k : Int) := by omega
      refine x_seq (x_asg (EvS.to (ev_lcTm (fun p => .int (meas k p)) (ev_tail (ev_var rfl)) fun p hp => ⟨rfl, cg_name (by simp) ⟨rfl, ?_⟩⟩) ?_))
      · exact ev_callD (av_two (ev_var rfl) ((ev_opD (ev_var rfl) ev_int rv_sub).asD (by rw [e1]))) (rc_spP (p, k) rfl (h3 p hp) fun s e => ⟨e, rfl⟩)
      · have hl2 : ps.map (fun p => PyData.int (meas k p)) = (ps.map fun p => ((meas k p : Nat) : Int)).map PyData.int := by simp
        refine x_ret (EvS.to (s := .dat (.int ((meas (k + 1) (.tuple (.str o :: ps)) : Nat) : Int))) (ev_if (b := decide (0 ∈ ps.map (meas k))) ((tv_test (ev_opD ev_int (ev_var rfl) (rv_inF (neg := false) rfl (by simp [flatD]) (.inr rfl)))).as (by rw [← any0]; rfl)) (fun hz => ev_int.asD ?_)
          (fun hz => EvS.asD (ev_cb1 (ev_var (s := .dat (.list ((ps.map fun p => ((meas k p : Nat) : Int)).map PyData.int))) (by rw [← hl2]; rfl)) rc_sum) ?_)) rfl)
        · rw [meas_node h1 h2, if_pos (of_decide_eq_true hz)]
          rfl
        · rw [meas_node h1 h2, if_neg (of_decide_eq_false hz), sum_int]
theorem fits_dec (d : PyData) : (decide ((1 : Int) ≤ ((meas 5 d : Nat) : Int)) && decide (((meas 5 d : Nat) : Int) ≤ 24)) = isTerm d := by
  unfold isTerm meas
  cases h : isT 5 d with
  | false => rfl
  | true =>
    rw [if_pos rfl]
    have := lv_pos h
    rw [decide_eq_true (by omega), Bool.true_and, Bool.true_and]
    exact decide_eq_decide.mpr (by omega)
abbrev sp_L_fits (K : PySem.W.Frag) : Sp := spP K (β := PyData) (fun d => [.dat d]) (fun d => isT 20 d = true) (fun d s => s = .dat (.bool (isTerm d)))
theorem ok_L_fits (B : Blt mg) (D_L_fits : Def K mg "_law_fits" s_L_fits p_L_fits) (D_L_measure : Def K mg "_law_measure" s_L_measure p_L_measure) : FnOk P w K mg base CX0 22 D_L_fits.f D_L_fits.fd p_L_fits (sp_L_fits K) := by
  have G_L_measure : FnOk P w K mg base CX0 21 D_L_measure.f D_L_measure.fd p_L_measure (sp_L_measure K 20) := ok_L_measure B D_L_measure 20
  refine fn_okP D_L_fits.fn sc_L_fits (fun _ => rfl) fun cdv A outer s H E hr N d h => ⟨_, (pss_one (ps_ret (pe_chain op_le op_le pe_int (pe_call G_L_measure (hr.mono (by omega)) rfl D_L_measure.g D_L_measure.fn.kp D_L_measure.b .nil pass0 (pa_cons (pv 0) (pa_cons pe_int pa_nil))) pe_int))), ?_⟩
  refine x_ret (EvS.to (EvS.asD (ev_chain ev_int (s2 := .dat (.int (meas 5 d : Nat))) (ev_callD (av_two (ev_var rfl) ev_int) (rc_spP (d, 5) rfl h fun s e => ⟨e, rfl⟩)) rv_le (fun _ => ev_int) fun _ => rv_le) (congrArg PyData.bool (fits_dec d))) rfl)
abbrev sp_L_nest (K : PySem.W.Frag) : Sp := spP K (β := Nat) (fun n => [.dat (.int n)]) (fun n => n ≤ 1000) (fun n s => s = .dat (nestD n))
theorem ok_L_nest (B : Blt mg) (D_L_nest : Def K mg "_law_nest" s_L_nest p_L_nest) : FnOk P w K mg base CX0 1 D_L_nest.f D_L_nest.fd p_L_nest (sp_L_nest K) := by
  refine fn_okP D_L_nest.fn sc_L_nest (fun _ => rfl) fun cdv A outer s H E hr N n hn => ⟨_, (pss_cons (ps_set (i := 1) sc_L_nest.nd rfl (by first | exact Or.inl rfl | exact Or.inr rfl) pe_str)
  (pss_cons (ps_for PassesOwn.never rfl (pi_range1 (by rfl) B.range (pa_cons (pv 0) pa_nil)) (pg_name (i := 2) sc_L_nest.nd rfl (by first | exact Or.inl rfl | exact Or.inr rfl)) (pss_one (ps_set (i := 1) sc_L_nest.nd rfl (by first | exact Or.inl rfl | exact Or.inr rfl) (pe_tup (pa_cons (pe_ix (w_ix K) (pe_lst (pa_cons pe_str (pa_cons pe_str pa_nil))) (pe_op op_mod (pe_callTy call_int1 (by rfl) B.int_ bt_int (pa_cons (pv 2) pa_nil)) pe_int) (fun _ _ => rfl)) (pa_cons (pv 1) (pa_cons pe_str pa_nil)))))))
  (pss_one (ps_ret (pv 1))))), ?_⟩
  have hn : n ≤ 1000 := hn
  refine x_seq (x_asg (EvS.to ev_str ?_))
  refine x_seq (x_forR (n := (n : Int)) (av_one (ev_var rfl)) (by omega) (fun i δ' g' => ∃ x, δ' = [.dat (.int n), .dat (nestD i), x]) ⟨.no, rfl⟩ (fun i δ' g' hi hJ => ?_) fun δ' g' hJ => ?_)
  · obtain ⟨x, rfl⟩ := hJ
    have hm : (i : Int) % 2 = ((i % 2 : Nat) : Int) := by omega
    have hat : atD (.list [.str AMP, .str BAR]) ((i : Int) % 2) = some (.str (opAt i)) := by
      rw [hm]
      show atI [PyData.str AMP, .str BAR] ((i % 2 : Nat) : Int) = _
      rcases Nat.mod_two_eq_zero_or_one i with e | e
      · unfold opAt; rw [e]; rfl
      · unfold opAt; rw [e]; rfl
    refine gs_name (x_asg (EvS.to (ev_tup (ds := [.str (opAt i), nestD i, .str "b"]) (av_cons (ev_opD (s2 := .dat (.int ((i : Int) % 2))) (ev_lst (ds := [.str AMP, .str BAR]) (av_two ev_str ev_str)) (ev_opD (ev_cb1 (ev_var rfl) rc_int) ev_int (rv_i (show (0 : Int) < 2 by decide) fun _ => .int _)) (rv_ix hat)) (av_two (ev_var rfl) ev_str))) ⟨_, rfl⟩))
  · obtain ⟨x, rfl⟩ := hJ
    exact x_ret (EvS.to (ev_var rfl) rfl)
end
end Z
/-! the order of terms without rules; a term between -/
namespace Z
open PySem L2

def opIs (o : Str) : PyData → Bool
  | .tuple (.str o' :: _) => o' == o
  | _ => false
def blw : Nat → PyData → PyData → Bool
  | 0, _, _ => false
  | n + 1, l, r =>
    if PyData.eqv l r = true then true
    else if opIs BAR l = true then (partsD l).all fun p => blw n p r
    else if opIs AMP r = true then (partsD r).all fun p => blw n l p
    else (opIs BAR r && (partsD r).any fun p => blw n l p) || (opIs AMP l && (partsD l).any fun p => blw n p r)
theorem all_cg {f g : PyData → Bool} : ∀ {ps : List PyData}, (∀ p ∈ ps, f p = g p) → ps.all f = ps.all g
  | [], _ => rfl
  | p :: ps, h => by
    rw [List.all_cons, List.all_cons, h p List.mem_cons_self, all_cg fun q hq => h q (List.mem_cons_of_mem _ hq)]
theorem any_cg {f g : PyData → Bool} : ∀ {ps : List PyData}, (∀ p ∈ ps, f p = g p) → ps.any f = ps.any g
  | [], _ => rfl
  | p :: ps, h => by
    rw [List.any_cons, List.any_cons, h p List.mem_cons_self, any_cg fun q hq => h q (List.mem_cons_of_mem _ hq)]
theorem parts_T {n : Nat} {d p : PyData} (h : isT n d = true) (hp : p ∈ partsD d) : ∃ m, n = m + 1 ∧ isT m p = true := by
  obtain ⟨m, e, c⟩ := isT_cases h
  rcases c with ⟨z, rfl, _⟩ | ⟨o, ps, rfl, _, _, h3⟩
  · cases hp
  · exact ⟨m, e, h3 p hp⟩
theorem blw_stable : ∀ (n : Nat) {l r : PyData} {a b : Nat}, isT a l = true → isT b r = true → a + b ≤ n → ∀ m, n ≤ m → blw m l r = blw n l r := by
  intro n
  induction n with
  | zero =>
    intro l r a b h1 h2 hab
    have : a = 0 := by omega
    subst this
    simp [isT] at h1
  | succ n ih =>
    intro l r a b h1 h2 hab m hm
    obtain ⟨m, rfl⟩ : ∃ k, m = k + 1 := ⟨m - 1, by omega⟩
    have hl : ∀ p ∈ partsD l, blw m p r = blw n p r := fun p hp => by
      obtain ⟨k, e, hk⟩ := parts_T h1 hp
      exact ih hk h2 (by omega) m (by omega)
    have hr : ∀ p ∈ partsD r, blw m l p = blw n l p := fun p hp => by
      obtain ⟨k, e, hk⟩ := parts_T h2 hp
      exact ih h1 hk (by omega) m (by omega)
    simp only [blw, all_cg hl, all_cg hr, any_cg hl, any_cg hr]
/-- l is always below r -/
def B (l r : PyData) : Bool := blw 20 l r
def Bstep (l r : PyData) : Bool :=
    if PyData.eqv l r = true then true
    else if opIs BAR l = true then (partsD l).all fun p => B p r
    else if opIs AMP r = true then (partsD r).all fun p => B l p
    else (opIs BAR r && (partsD r).any fun p => B l p) || (opIs AMP l && (partsD l).any fun p => B p r)
theorem B_eq {l r : PyData} {a b : Nat} (h1 : isT a l = true) (h2 : isT b r = true) (hab : a + b ≤ 20) : B l r = Bstep l r := by
  have hl : ∀ p ∈ partsD l, B p r = blw 19 p r := fun p hp => by
    obtain ⟨k, e, hk⟩ := parts_T h1 hp
    exact blw_stable 19 hk h2 (by omega) 20 (by omega)
  have hr : ∀ p ∈ partsD r, B l p = blw 19 l p := fun p hp => by
    obtain ⟨k, e, hk⟩ := parts_T h2 hp
    exact blw_stable 19 h1 hk (by omega) 20 (by omega)
  unfold Bstep
  rw [all_cg hl, all_cg hr, any_cg hl, any_cg hr]
  rfl
/-! ### the kind of the last step -/
inductive Rsn where
  | same
  | out (ps : List PyData)
  | into (ps : List PyData)
  | right (p : PyData)
  | left (p : PyData)
def rsn (l r : PyData) : Option Rsn :=
    if PyData.eqv l r = true then some .same
    else if opIs BAR l = true then (if ((partsD l).all fun p => B p r) = true then some (.out (partsD l)) else none)
    else if opIs AMP r = true then (if ((partsD r).all fun p => B l p) = true then some (.into (partsD r)) else none)
    else match (if opIs BAR r = true then (partsD r).find? (fun p => B l p) else none) with
      | some p => some (.right p)
      | none => (match (if opIs AMP l = true then (partsD l).find? (fun p => B p r) else none) with
        | some p => some (.left p)
        | none => none)
theorem find_any {f : PyData → Bool} {ps : List PyData} : (ps.find? f).isSome = ps.any f := by
  induction ps with
  | nil => rfl
  | cons p ps ih =>
    rw [List.find?_cons, List.any_cons]
    cases f p with
    | true => rfl
    | false => rw [Bool.false_or, ← ih]
theorem rsn_B {l r : PyData} {a b : Nat} (h1 : isT a l = true) (h2 : isT b r = true) (hab : a + b ≤ 20) : (rsn l r).isSome = B l r := by
  rw [B_eq h1 h2 hab]
  unfold rsn Bstep
  split
  · rfl
  split
  · split
    · rename_i h; rw [h]; rfl
    · rename_i h; rw [Bool.eq_false_iff.mpr h]; rfl
  split
  · split
    · rename_i h; rw [h]; rfl
    · rename_i h; rw [Bool.eq_false_iff.mpr h]; rfl
  · rw [← find_any, ← find_any]
    cases opIs BAR r <;> cases opIs AMP l <;> simp only [Bool.false_and, Bool.true_and, Bool.false_eq_true, if_false, if_true, Bool.or_false, Bool.false_or] <;> first
      | rfl
      | (cases (partsD r).find? (fun p => B l p) <;> first | rfl | (cases (partsD l).find? (fun p => B p r) <;> rfl))
      | (cases (partsD l).find? (fun p => B p r) <;> rfl)
/-- as the program writes it -/
def pairD (a b : PyData) : PyData := .tuple [a, b]
def rsnD (l r : PyData) : PyData := match rsn l r with
  | none => .none
  | some .same => .tuple [.str "same", .list []]
  | some (.out ps) => .tuple [.str "out", .list (ps.map fun p => pairD p r)]
  | some (.into ps) => .tuple [.str "into", .list (ps.map fun p => pairD l p)]
  | some (.right p) => .tuple [.str "right", .list [pairD l p, pairD p r]]
  | some (.left p) => .tuple [.str "left", .list [pairD l p, pairD p r]]
/-! ### subterms -/
theorem mem_wks {d : PyData} : ∀ {ps : List PyData}, d ∈ wks ps ↔ ∃ p ∈ ps, d ∈ wk p
  | [] => by simp [wks]
  | p :: ps => by simp [wks, mem_wks (ps := ps)]
theorem wk_self : ∀ d : PyData, d ∈ wk d := fun d => by cases d <;> simp [wk]
theorem wk_parts {d : PyData} (p : PyData) (hp : p ∈ partsD d) : wk p ⊆ wk d := by
  match d, hp with
  | .tuple (c :: ps), hp =>
    rw [wk_node]
    exact fun x hx => List.mem_cons_of_mem _ (mem_wks.mpr ⟨p, hp, hx⟩)
theorem wk_trans : ∀ {n : Nat} {e : PyData}, isT n e = true → ∀ {d : PyData}, d ∈ wk e → wk d ⊆ wk e := by
  intro n
  induction n with
  | zero => intro e h; simp [isT] at h
  | succ n ih =>
    intro e h d hd
    obtain ⟨m, em, c⟩ := isT_cases h
    cases em
    rcases c with ⟨z, rfl, _⟩ | ⟨o, ps, rfl, _, _, h3⟩
    · rw [wk_str] at hd
      rw [List.mem_singleton.mp hd]
      exact fun x hx => hx
    · rw [wk_node] at hd
      rcases List.mem_cons.mp hd with rfl | hd
      · exact fun x hx => hx
      · obtain ⟨p, hp, hdp⟩ := mem_wks.mp hd
        exact fun x hx => wk_parts (d := .tuple (.str o :: ps)) p hp (ih (h3 p hp) hdp hx)
theorem wk_part {n : Nat} {e d p : PyData} (h : isT n e = true) (hd : d ∈ wk e) (hp : p ∈ partsD d) : p ∈ wk e := wk_trans h hd (wk_parts p hp (wk_self p))
theorem wk_isT : ∀ {n : Nat} {e : PyData}, isT n e = true → ∀ d ∈ wk e, isT n d = true ∧ lv d ≤ lv e := by
  intro n
  induction n with
  | zero => intro e h; simp [isT] at h
  | succ n ih =>
    intro e h d hd
    obtain ⟨m, em, c⟩ := isT_cases h
    cases em
    rcases c with ⟨z, rfl, _⟩ | ⟨o, ps, rfl, _, _, h3⟩
    · rw [wk_str] at hd
      rw [List.mem_singleton.mp hd]
      exact ⟨h, Nat.le_refl _⟩
    · rw [wk_node] at hd
      rcases List.mem_cons.mp hd with rfl | hd
      · exact ⟨h, Nat.le_refl _⟩
      · obtain ⟨p, hp, hdp⟩ := mem_wks.mp hd
        obtain ⟨a, b⟩ := ih (h3 p hp) d hdp
        exact ⟨isT_succ a, Nat.le_trans b (lvs_le hp (Nat.le_refl _))⟩
/-- different ones of a list are no more than the list -/
theorem nodup_le {α : Type} : ∀ {l m : List α}, l.Nodup → l ⊆ m → l.length ≤ m.length
  | [], _, _, _ => Nat.zero_le _
  | a :: l, m, nd, h => by
    have nd' := List.nodup_cons.mp nd
    have ha : a ∈ m := h List.mem_cons_self
    obtain ⟨s, t, rfl⟩ := List.append_of_mem ha
    have h2 : l ⊆ s ++ t := fun x hx => by
      have hx' := h (List.mem_cons_of_mem _ hx)
      rcases List.mem_append.mp hx' with q | q
      · exact List.mem_append_left _ q
      · rcases List.mem_cons.mp q with q | q
        · exact absurd (q ▸ hx) nd'.1
        · exact List.mem_append_right _ q
    have := nodup_le nd'.2 h2
    rw [List.length_cons, List.length_append, List.length_cons]
    rw [List.length_append] at this
    omega
/-! ### the memo -/
/-- the table of answers: for pairs of subterms of l0, r0 -/
structure Memo (l0 r0 : PyData) (kvs : List (Key × V)) : Prop where
  nd : (kvs.map (·.1)).Nodup
  ok : ∀ kv ∈ kvs, ∃ l r, l ∈ wk l0 ∧ r ∈ wk r0 ∧ kv = (Sum.inr (keyOf l r), V.bl (B l r))
def allKeys (l0 r0 : PyData) : List Key := (wk l0).flatMap fun l => (wk r0).map fun r => Sum.inr (keyOf l r)
theorem flat_len {α β : Type} {f : α → List β} {n : Nat} : ∀ {xs : List α}, (∀ x ∈ xs, (f x).length = n) → (xs.flatMap f).length = xs.length * n
  | [], _ => by simp
  | x :: xs, h => by
    rw [List.flatMap_cons, List.length_append, h x List.mem_cons_self, flat_len fun y hy => h y (List.mem_cons_of_mem _ hy), List.length_cons, Nat.succ_mul]
    omega
theorem Memo.len {l0 r0 : PyData} {kvs : List (Key × V)} (m : Memo l0 r0 kvs) : kvs.length ≤ (wk l0).length * (wk r0).length := by
  have h : kvs.map (·.1) ⊆ allKeys l0 r0 := fun k hk => by
    obtain ⟨kv, hkv, rfl⟩ := List.mem_map.mp hk
    obtain ⟨l, r, hl, hr, rfl⟩ := m.ok kv hkv
    exact List.mem_flatMap.mpr ⟨l, hl, List.mem_map.mpr ⟨r, hr, rfl⟩⟩
  have := nodup_le m.nd h
  rw [List.length_map] at this
  unfold allKeys at this
  rwa [flat_len (n := (wk r0).length) (fun x _ => List.length_map ..)] at this
theorem Memo.get {l0 r0 l r : PyData} {n m n' m' : Nat} {kvs : List (Key × V)} {v : V} (mo : Memo l0 r0 kvs) (h1 : isT n l0 = true) (h2 : isT m r0 = true) (h3 : isT n' l = true) (h4 : isT m' r = true) (hv : valV kvs (Sum.inr (keyOf l r) : Key) = some v) : v = .bl (B l r) := by
  unfold valV at hv
  cases q : kvs.find? (fun kv => decide (kv.1 = (Sum.inr (keyOf l r) : Key))) with
  | none => rw [q] at hv; cases hv
  | some kv =>
    rw [q] at hv
    cases hv
    have hk : kv.1 = (Sum.inr (keyOf l r) : Key) := of_decide_eq_true (List.find?_some (p := fun kv : Key × V => decide (kv.1 = (Sum.inr (keyOf l r) : Key))) q)
    obtain ⟨l', r', hl', hr', e⟩ := mo.ok kv (List.mem_of_find?_eq_some q)
    rw [e] at hk ⊢
    obtain ⟨a, b⟩ := key_inj (wk_isT h1 l' hl').1 (wk_isT h2 r' hr').1 h3 h4 (Sum.inr.inj hk)
    rw [a, b]
theorem Memo.put {l0 r0 l r : PyData} {kvs : List (Key × V)} (mo : Memo l0 r0 kvs) (hl : l ∈ wk l0) (hr : r ∈ wk r0) (hn : valV kvs (Sum.inr (keyOf l r) : Key) = none) : Memo l0 r0 (putK kvs (Sum.inr (keyOf l r) : Key) (.bl (B l r))) := by
  refine ⟨nd_putK _ mo.nd hn, ?_⟩
  rw [putK_new _ hn]
  intro kv hkv
  rcases List.mem_append.mp hkv with h | h
  · exact mo.ok kv h
  · rw [List.mem_singleton.mp h]
    exact ⟨l, r, hl, hr, rfl⟩
theorem Memo.nil {l0 r0 : PyData} : Memo l0 r0 [] := ⟨List.nodup_nil, fun _ h => by cases h⟩
end Z
namespace Z
open PySem L2
/-! ### x in a tuple of deep data -/
def rInDT (K : PySem.W.Frag) : R2 := fun x y H Q => ∃ d ds, Dp K H x d ∧ Dp K H y (.tuple ds) ∧ SeqAt.shaped d = true ∧ SeqAt.shaped (.tuple ds) = true ∧ Q (.bl (ds.any fun z => PyData.eqv z d)) H
section
open PySem.Spec PyProof.Rows
variable {X : Cx}
theorem op_inDT (hu : X.A.units + 65 < cLine) : OpR X (compareOp .In) (rInDT X.K) := fun pins s σ H x y v u Q I rx ry ⟨d, ds, hd, he, sd, se, q⟩ => by
  obtain ⟨as, r1⟩ := Dp.reads I d x v hd rx
  obtain ⟨bs, r2⟩ := Dp.reads I (.tuple ds) y u he ry
  exact SeqAt.in_tuple_reads r2 r1 (SeqAt.canLay_of_shaped se) (SeqAt.canLay_of_shaped sd) (room_in_shaped sd hu) ⟨.bl _, H, I, rfl, q⟩
theorem w_inDT (K : PySem.W.Frag) (hu : X.A.units + 65 < cLine) (h : X.K = K := by rfl) : OpR X (compareOp .In) (rInDT K) := h ▸ op_inDT hu
theorem _root_.L2.Room.units65 {k : Nat} {A : Around} (r : Room k A) : A.units + 65 < cLine := by have := r.un; omega
end
theorem rv_inDT {K : PySem.W.Frag} {W : Wd} {g : W.G} {d : PyData} {ds : List PyData} (h1 : SeqAt.shaped d = true) (h2 : SeqAt.shaped (.tuple ds) = true) : RvD K W (rInDT K) d (.tuple ds) g (.bool (ds.any fun z => PyData.eqv z d)) := RvS.pure fun v1 v2 H i r1 r2 Q q => ⟨d, ds, Da.dp _ _ (SeqAt.canLay_of_shaped h1) r1, Da.dp _ _ (SeqAt.canLay_of_shaped h2) r2, h1, h2, q _ (Da.bl _)⟩
/-! ### steps -/
structure St3 where
  l : PyData
  r : PyData
  why : PyData
def St3.d (s : St3) : PyData := .tuple [s.l, s.r, s.why]
abbrev wSame : PyData := .tuple [.str "same"]
abbrev wPart : PyData := .tuple [.str "part"]
abbrev wMany (k : Str) (is : List Nat) : PyData := .tuple [.str k, .tuple (is.map fun i => .int (i : Nat))]
abbrev wChain (i j : Nat) : PyData := .tuple [.str "chain", .int (i : Nat), .int (j : Nat)]
abbrev node (o : Str) (ps : List PyData) : PyData := .tuple (.str o :: ps)
abbrev stepsD (S : List St3) : PyData := .list (S.map St3.d)
/-- a right step at place n -/
inductive Right (S : List St3) (n : Nat) : St3 → Prop
  | same {t : PyData} : Right S n ⟨t, t, wSame⟩
  | partA {ps : List PyData} {p : PyData} : p ∈ ps → Right S n ⟨node AMP ps, p, wPart⟩
  | partO {ps : List PyData} {p : PyData} : p ∈ ps → Right S n ⟨p, node BAR ps, wPart⟩
  | chain {i j : Nat} {a b c w1 w2 : PyData} : i < n → j < n → S[i]? = some ⟨a, b, w1⟩ → S[j]? = some ⟨b, c, w2⟩ → Right S n ⟨a, c, wChain i j⟩
  | into {l : PyData} {ps : List PyData} {is : List Nat} : is.length = ps.length → (∀ (k i : Nat) (p : PyData), is[k]? = some i → ps[k]? = some p → i < n ∧ ∃ w, S[i]? = some ⟨l, p, w⟩) → Right S n ⟨l, node AMP ps, wMany "into" is⟩
  | out {r : PyData} {ps : List PyData} {is : List Nat} : is.length = ps.length → (∀ (k i : Nat) (p : PyData), is[k]? = some i → ps[k]? = some p → i < n ∧ ∃ w, S[i]? = some ⟨p, r, w⟩) → Right S n ⟨node BAR ps, r, wMany "out" is⟩
theorem Right.mono {S T : List St3} {n m : Nat} {s : St3} (h : Right S n s) (hS : ∀ (i : Nat) (t : St3), S[i]? = some t → T[i]? = some t) (hn : n ≤ m) : Right T m s := by
  cases h with
  | same => exact .same
  | partA h => exact .partA h
  | partO h => exact .partO h
  | chain h1 h2 h3 h4 => exact .chain (Nat.lt_of_lt_of_le h1 hn) (Nat.lt_of_lt_of_le h2 hn) (hS _ _ h3) (hS _ _ h4)
  | into h1 h2 => exact .into h1 fun k i p a b => let ⟨x, w, y⟩ := h2 k i p a b; ⟨Nat.lt_of_lt_of_le x hn, w, hS _ _ y⟩
  | out h1 h2 => exact .out h1 fun k i p a b => let ⟨x, w, y⟩ := h2 k i p a b; ⟨Nat.lt_of_lt_of_le x hn, w, hS _ _ y⟩
/-- all steps are right, between long terms -/
structure Deriv (S : List St3) : Prop where
  ok : ∀ n s, S[n]? = some s → Right S n s
  tl : ∀ s ∈ S, isT 9 s.l = true
  tr : ∀ s ∈ S, isT 9 s.r = true
  len : S.length ≤ 1000000
section
variable {P : Program} {w : World} {K : PySem.W.Frag} {mg : Str → Option Value} {base : Heap}
theorem at_steps {S : List St3} {n : Nat} {s : St3} (h : S[n]? = some s) : atD (stepsD S) (n : Int) = some s.d := by
  show atI (S.map St3.d) (n : Int) = some s.d
  exact atI_nat (by rw [List.getElem?_map, h]; rfl)
theorem at1 {a b : PyData} {ps : List PyData} : atD (.tuple (a :: b :: ps)) 1 = some b := by
  show atI (a :: b :: ps) 1 = some b
  exact atI_nat (j := 1) rfl
theorem at2 {a b c : PyData} {ps : List PyData} : atD (.tuple (a :: b :: c :: ps)) 2 = some c := by
  show atI (a :: b :: c :: ps) 2 = some c
  exact atI_nat (j := 2) rfl
theorem fit_s {n : Nat} {z : Str} (h : PyData.canLay0 (.str z) = true := by decide +kernel) : Fit n (.str z) := Fit.str h
theorem cut2 (a b c : PyData) : cutD [a, b, c] none (some 2) = [a, b] := by
  unfold cutD
  have e : HT.sIx [a, b, c].length [a, b, c].length (some 2) = 2 := HT.sIx_nat 3 3 2
  rw [HT.sIx_none, e]
  rfl
theorem nocut2 (a b c : PyData) : ¬ (HT.sIx [a, b, c].length 0 none = 0 ∧ HT.sIx [a, b, c].length [a, b, c].length (some 2) = [a, b, c].length) := by
  rintro ⟨_, e⟩
  rw [show HT.sIx [a, b, c].length [a, b, c].length (some 2) = 2 from HT.sIx_nat 3 3 2] at e
  simp at e
theorem ev_first2 {W : Wd} {te : TE} {δ : List Sl} {g : W.G} {a b c : PyData} (h : EvD K W te δ g (.tuple [a, b, c])) : EvD K W (tSl (rSlT K) te tNoPart (tPart (tC (.int 2)))) δ g (.tuple [a, b]) :=
  EvS.asD (ev_slT h ov_none (ov_some ev_int) (nocut2 a b c)) (by rw [cut2])
/-- the pairs that the indexes lead to -/
theorem fit_pair {n : Nat} {a b : PyData} (h1 : Fit n a) (h2 : Fit n b) : Fit (n + 1) (.tuple [a, b]) := Fit.tuple fun d hd => by
  rcases List.mem_cons.mp hd with rfl | hd
  · exact h1
  · rw [List.mem_singleton.mp hd]; exact h2
/-- what the law asks of a step of several premises -/
def IntoAt (S : List St3) (n : Nat) (is : List Nat) : Prop := ∃ l ps, S[n]? = some ⟨l, node AMP ps, wMany "into" is⟩ ∧ is.length = ps.length ∧ ∀ (k i : Nat) (p : PyData), is[k]? = some i → ps[k]? = some p → i < n ∧ ∃ w, S[i]? = some ⟨l, p, w⟩
def OutAt (S : List St3) (n : Nat) (is : List Nat) : Prop := ∃ r ps, S[n]? = some ⟨node BAR ps, r, wMany "out" is⟩ ∧ is.length = ps.length ∧ ∀ (k i : Nat) (p : PyData), is[k]? = some i → ps[k]? = some p → i < n ∧ ∃ w, S[i]? = some ⟨p, r, w⟩
abbrev sp_L_many (K : PySem.W.Frag) : Sp := spP K (β := List St3 × Nat × List Nat) (fun x => [.dat (stepsD x.1), .dat (.int x.2.1), .dat (.tuple (x.2.2.map fun i => .int (i : Nat)))])
  (fun x => Deriv x.1 ∧ (IntoAt x.1 x.2.1 x.2.2 ∨ OutAt x.1 x.2.1 x.2.2)) (fun x s => s = .dat (.bool true))
theorem many_true {is : List Nat} : ((is.map fun i : Nat => PyData.int (i : Nat)).map fun _ => PyData.bool true) = (is.map fun _ => true).map PyData.bool := by simp
theorem pairs_eq {S : List St3} {n : Nat} {is : List Nat} {ps : List PyData} {F : PyData → PyData} {G : PyData → PyData} (hl : is.length = ps.length) (h : ∀ (k i : Nat) (p : PyData), is[k]? = some i → ps[k]? = some p → G (.int (i : Nat)) = F p) : (is.map fun i : Nat => PyData.int (i : Nat)).map G = ps.map F := by
  rw [List.map_map]
  apply List.ext_getElem?
  intro k
  rw [List.getElem?_map, List.getElem?_map]
  by_cases hk : k < is.length
  · have e1 : is[k]? = some is[k] := List.getElem?_eq_getElem hk
    have e2 : ps[k]? = some (ps[k]'(by rw [← hl]; exact hk)) := List.getElem?_eq_getElem _
    rw [e1, e2]
    exact congrArg some (h k _ _ e1 e2)
  · rw [List.getElem?_eq_none (by omega), List.getElem?_eq_none (by omega)]
    rfl
/-- what stands at a step, for the comprehension -/
def first2 (S : List St3) (d : PyData) : PyData := match d with
  | .int i => (match S[i.toNat]? with
    | some s => .tuple [s.l, s.r]
    | none => .none)
  | _ => .none
theorem first2_at {S : List St3} {i : Nat} {s : St3} (h : S[i]? = some s) : first2 S (.int (i : Nat)) = .tuple [s.l, s.r] := by
  show (match S[((i : Nat) : Int).toNat]? with | some s => PyData.tuple [s.l, s.r] | none => .none) = _
  rw [Int.toNat_natCast, h]
theorem ok_L_many (B : Blt mg) (D_L_many_right : Def K mg "_law_many_right" s_L_many_right p_L_many_right) (D_L_index : Def K mg "_law_index" s_L_index p_L_index) : FnOk P w K mg base CX0 2 D_L_many_right.f D_L_many_right.fd p_L_many_right (sp_L_many K) := by
  have G_L_index : FnOk P w K mg base CX0 1 D_L_index.f D_L_index.fd p_L_index (sp_L_index K) := ok_L_index B D_L_index
  refine fn_okP D_L_many_right.fn sc_L_many_right (fun _ => rfl) fun cdv A outer s H E hr N x hx => ⟨_, (pss_cons (ps_asg (pe_ix (w_ix K) (pv 0) (pv 1) (fun _ _ => rfl)) (pg_tup rfl (pgs_cons (pg_name (i := 3) sc_L_many_right.nd rfl (by first | exact Or.inl rfl | exact Or.inr rfl)) (pgs_cons (pg_name (i := 4) sc_L_many_right.nd rfl (by first | exact Or.inl rfl | exact Or.inr rfl)) (pgs_cons (pg_name (i := 5) sc_L_many_right.nd rfl (by first | exact Or.inl rfl | exact Or.inr rfl)) pgs_nil)))))
  (pss_cons (ps_asg (pe_ifExp (pt_cmpR (w_eqD K hr.units) (pe_ix (w_ix K) (pv 5) pe_int (fun _ _ => rfl)) pe_str (nomark _)) (pe_tup (pa_cons (pv 4) (pa_cons pe_str pa_nil))) (pe_tup (pa_cons (pv 3) (pa_cons pe_str pa_nil)))) (pg_tup rfl (pgs_cons (pg_name (i := 6) sc_L_many_right.nd rfl (by first | exact Or.inl rfl | exact Or.inr rfl)) (pgs_cons (pg_name (i := 7) sc_L_many_right.nd rfl (by first | exact Or.inl rfl | exact Or.inr rfl)) pgs_nil))))
  (pss_cons (ps_if (PW.pt (pw_or (pt_val (pe_callB (w_isi K) (by rfl) B.isinstance bt_isinstance (pa_cons (pv 6) (pa_cons (pe_bltn (v := .ty "str") (by rfl) B.str_ bt_str rfl) pa_nil)))) (pw_or (pt_cmpR (w_neD K hr.units) (pe_ix (w_ix K) (pv 6) pe_int (fun _ _ => rfl)) (pv 7) (nomark _)) (pw_or1 (pt_not (pt_val (pe_callB (w_isi K) (by rfl) B.isinstance bt_isinstance (pa_cons (pv 2) (pa_cons (pe_bltn (v := .ty "tuple") (by rfl) B.tuple_ bt_tuple rfl) pa_nil))))))))) (pss_one (ps_ret pe_bl)) pss_nil)
  (pss_cons (ps_if (PW.pt (pw_or (pt_cmpR (w_neD K hr.units) (pe_callB (w_len K) (by rfl) B.len bt_len (pa_cons (pv 2) pa_nil)) (pe_op op_sub (pe_callB (w_len K) (by rfl) B.len bt_len (pa_cons (pv 6) pa_nil)) pe_int) (nomark _)) (pw_or1 (pt_not (pt_val (pe_callB (w_all K rfl) (by rfl) B.all bt_all (pa_cons (pe_lc (own := [("_law_one", 9)]) (g := gName 9) (tt := tYes) (by rfl) sc_L_many_right.nd (pi_tup (pv 2)) (blkOk_by (N := n_L_many_right) (sc := defScope s_L_many_right) (by decide +kernel)) (fun _ _ _ _ _ => (pg_name (i := 9) sc_L_many_right.nd rfl (by first | exact Or.inl rfl | exact Or.inr rfl))) (fun _ _ _ _ _ => pts_nil) (fun _ _ _ _ _ => (pe_call G_L_index (hr.mono (by omega)) rfl D_L_index.g D_L_index.fn.kp D_L_index.b .nil pass0 (pa_cons (pv 9) (pa_cons (pv 1) pa_nil))))) pa_nil))))))) (pss_one (ps_ret pe_bl)) pss_nil)
  (pss_cons (ps_setLc (i := 8) (own := [("_law_one", 9)]) (g := gName 9) (tt := tYes) rfl sc_L_many_right.nd rfl rfl (sw_true rfl rfl rfl (by decide +kernel)) (pi_tup (pe_slice (w_slT K) (pv 6) (po_some pe_int) po_none)) (blkOk_by (N := n_L_many_right) (sc := defScope s_L_many_right) (by decide +kernel)) (fun _ _ _ _ _ => (pg_name (i := 9) sc_L_many_right.nd rfl (by first | exact Or.inl rfl | exact Or.inr rfl))) (fun _ _ _ _ _ => pts_nil) (fun _ _ _ _ _ => (pe_ifExp (pt_cmpR (w_eqD K hr.units) (pv 7) pe_str (nomark _)) (pe_tup (pa_cons (pv 3) (pa_cons (pv 9) pa_nil))) (pe_tup (pa_cons (pv 9) (pa_cons (pv 4) pa_nil))))))
  (pss_one (ps_ret (pe_cmpR (w_eqD K hr.units) (pe_lc (own := [("_law_one", 9)]) (g := gName 9) (tt := tYes) (by rfl) sc_L_many_right.nd (pi_tup (pv 2)) (blkOk_by (N := n_L_many_right) (sc := defScope s_L_many_right) (by decide +kernel)) (fun _ _ _ _ _ => (pg_name (i := 9) sc_L_many_right.nd rfl (by first | exact Or.inl rfl | exact Or.inr rfl))) (fun _ _ _ _ _ => pts_nil) (fun _ _ _ _ _ => (pe_slice (w_slT K) (pe_ix (w_ix K) (pv 0) (pv 9) (fun _ _ => rfl)) po_none (po_some pe_int)))) (pv 8) (nomark _))))))))), ?_⟩
  obtain ⟨S, n, is⟩ := x
  obtain ⟨hD, hI⟩ := hx
  dsimp only at hD hI ⊢
  rcases hI with ⟨l, ps, hs, hl, hk⟩ | ⟨r, ps, hs, hl, hk⟩
  · have hm := List.mem_of_getElem? hs
    have hT : isT 9 (node AMP ps) = true := hD.tr _ hm
    have hTl : isT 9 l = true := hD.tl _ hm
    have hTp : ∀ p ∈ ps, isT 8 p = true := by
      obtain ⟨m, e, c⟩ := isT_cases hT
      cases e
      rcases c with ⟨z, e, _⟩ | ⟨o, ps', e, _, _, h⟩
      · cases e
      · cases e; exact h
    have hi : ∀ i ∈ is, i < n ∧ ∃ s, S[i]? = some s := fun i hi => by
      obtain ⟨q, hq⟩ := List.getElem?_of_mem hi
      have hql := (List.getElem?_eq_some_iff.mp hq).1
      obtain ⟨h1, w, h2⟩ := hk q i (ps[q]'(by omega)) hq (List.getElem?_eq_getElem _)
      exact ⟨h1, _, h2⟩
    -- mleft, mright, reason = steps[at]
    refine x_seq (x_asgG (EvS.to (ev_opD (ev_var rfl) (ev_var rfl) (rv_ix (at_steps hs))) (gs_tup rfl (gs_cons (gs_name (gs_cons (gs_name (gs_cons (gs_name (gs_nil ?_))))))))))
    -- whole, sign = ..
    refine x_seq (x_asgG (EvS.to (s := .dat (.tuple [node AMP ps, .str AMP])) (ev_if (b := true) ((tv_test (ev_opD (ev_opD (ev_var rfl) ev_int (rv_ix at0)) ev_str (rv_eqD (Fit.shaped (n := 0) fit_s (by decide)) (Fit.shaped (n := 0) fit_s (by decide))))).as (by decide +kernel)) (fun _ => ev_tup (ds := [node AMP ps, .str AMP]) (av_two (ev_var rfl) ev_str)) fun q => by cases q) (gs_tup rfl (gs_cons (gs_name (gs_cons (gs_name (gs_nil ?_))))))))
    refine x_seq (x_ifD (b := false) (TvS.as (tv_or (b := false) (tv_B (ev_isStr (ev_var rfl))) fun _ => TvS.as (tv_or (b := false) (tv_test (ev_opD (ev_opD (ev_var rfl) ev_int (rv_ix at0)) (ev_var rfl) (rv_neD (Fit.shaped (n := 0) fit_s (by decide)) (Fit.shaped (n := 0) fit_s (by decide))))) fun _ => tv_not (a := true) ((tv_B (ev_isTup (ev_var rfl))).as rfl)) (by decide +kernel)) rfl) (fun q => by cases q) fun _ => x_next ?_)
    refine x_seq (x_ifD (b := false) (TvS.as (tv_or (b := false) (tv_test (ev_opD (ev_len (ev_var rfl) (n := is.length) (by simp [lenD])) (ev_opD (ev_len (ev_var rfl) (n := ps.length + 1) rfl) ev_int rv_sub) (rv_neD (Fit.shaped (Fit.int (n := 0) _) (by decide)) (Fit.shaped (Fit.int (n := 0) _) (by decide))))) fun _ => tv_not (a := true) (tv_B (EvS.asD (ev_cb1 (s := .dat (.list ((is.map fun _ => true).map PyData.bool))) ((ev_lcTm (fun _ => .bool true) (ev_var rfl) fun d hd => ⟨rfl, cg_name (by simp) ⟨rfl, ?_⟩⟩).as (by rw [many_true])) rc_all) (by simp)))) ?_) (fun q => by cases q) fun _ => x_next ?_)
    · obtain ⟨i, hi', rfl⟩ := List.mem_map.mp hd
      exact ev_callD (av_two (ev_var rfl) (ev_var rfl)) (rc_spP (i, n) rfl (hi i hi').1 fun s e => ⟨e, rfl⟩)
    · simp [PyData.eqv, hl]
    -- due
    refine x_seq (x_asg (EvS.to (ev_lcTm (fun p => .tuple [l, p]) (ev_tail (ev_var rfl)) fun p hp => ⟨by simp [nol, nols, isT_nol hTl, isT_nol (hTp p hp)], cg_name (by simp) ⟨rfl, ?_⟩⟩) ?_))
    · exact ev_if (b := true) ((tv_test (ev_opD (ev_var rfl) ev_str (rv_eqD (Fit.shaped (n := 0) fit_s (by decide)) (Fit.shaped (n := 0) fit_s (by decide))))).as (by decide +kernel)) (fun _ => ev_tup (ds := [l, p]) (av_two (ev_var rfl) (ev_var rfl))) fun q => by cases q
    · have fp : ∀ p ∈ ps, Fit 10 (.tuple [l, p]) := fun p hp => fit_pair (isT_fit hTl) ((isT_fit (hTp p hp)).mono (by decide))
      have fl : Fit 11 (.list (ps.map fun p => PyData.tuple [l, p])) := Fit.list fun d hd => by
        obtain ⟨p, hp, rfl⟩ := List.mem_map.mp hd
        exact fp p hp
      have eqs : (is.map fun i : Nat => PyData.int (i : Nat)).map (first2 S) = ps.map fun p => PyData.tuple [l, p] := pairs_eq (S := S) (n := n) hl fun k i p a b => by
        obtain ⟨_, w, h⟩ := hk k i p a b
        exact first2_at h
      refine x_ret (EvS.to (EvS.asD (ev_opD (s1 := .dat (.list (ps.map fun p => PyData.tuple [l, p]))) ((ev_lcTm (first2 S) (ev_var rfl) fun d hd => ?_).as (by rw [eqs])) (ev_var rfl) (rv_eqD (fl.shaped (by decide)) (fl.shaped (by decide)))) (by rw [eqv_refl_plain fl.pl])) rfl)
      obtain ⟨i, hi', rfl⟩ := List.mem_map.mp hd
      obtain ⟨_, s, hs'⟩ := hi i hi'
      have hm' := List.mem_of_getElem? hs'
      rw [first2_at hs']
      exact ⟨by simp [nol, nols, isT_nol (hD.tl _ hm'), isT_nol (hD.tr _ hm')], cg_name (by simp) ⟨rfl, ev_first2 (ev_opD (ev_var rfl) (ev_var rfl) (rv_ix (at_steps hs')))⟩⟩
  · have hm := List.mem_of_getElem? hs
    have hT : isT 9 (node BAR ps) = true := hD.tl _ hm
    have hTr : isT 9 r = true := hD.tr _ hm
    have hTp : ∀ p ∈ ps, isT 8 p = true := by
      obtain ⟨m, e, c⟩ := isT_cases hT
      cases e
      rcases c with ⟨z, e, _⟩ | ⟨o, ps', e, _, _, h⟩
      · cases e
      · cases e; exact h
    have hi : ∀ i ∈ is, i < n ∧ ∃ s, S[i]? = some s := fun i hi => by
      obtain ⟨q, hq⟩ := List.getElem?_of_mem hi
      have hql := (List.getElem?_eq_some_iff.mp hq).1
      obtain ⟨h1, w, h2⟩ := hk q i (ps[q]'(by omega)) hq (List.getElem?_eq_getElem _)
      exact ⟨h1, _, h2⟩
    refine x_seq (x_asgG (EvS.to (ev_opD (ev_var rfl) (ev_var rfl) (rv_ix (at_steps hs))) (gs_tup rfl (gs_cons (gs_name (gs_cons (gs_name (gs_cons (gs_name (gs_nil ?_))))))))))
    refine x_seq (x_asgG (EvS.to (s := .dat (.tuple [node BAR ps, .str BAR])) (ev_if (b := false) ((tv_test (ev_opD (ev_opD (ev_var rfl) ev_int (rv_ix at0)) ev_str (rv_eqD (Fit.shaped (n := 0) fit_s (by decide)) (Fit.shaped (n := 0) fit_s (by decide))))).as (by decide +kernel)) (fun q => by cases q) fun _ => ev_tup (ds := [node BAR ps, .str BAR]) (av_two (ev_var rfl) ev_str)) (gs_tup rfl (gs_cons (gs_name (gs_cons (gs_name (gs_nil ?_))))))))
    refine x_seq (x_ifD (b := false) (TvS.as (tv_or (b := false) (tv_B (ev_isStr (ev_var rfl))) fun _ => TvS.as (tv_or (b := false) (tv_test (ev_opD (ev_opD (ev_var rfl) ev_int (rv_ix at0)) (ev_var rfl) (rv_neD (Fit.shaped (n := 0) fit_s (by decide)) (Fit.shaped (n := 0) fit_s (by decide))))) fun _ => tv_not (a := true) ((tv_B (ev_isTup (ev_var rfl))).as rfl)) (by decide +kernel)) rfl) (fun q => by cases q) fun _ => x_next ?_)
    refine x_seq (x_ifD (b := false) (TvS.as (tv_or (b := false) (tv_test (ev_opD (ev_len (ev_var rfl) (n := is.length) (by simp [lenD])) (ev_opD (ev_len (ev_var rfl) (n := ps.length + 1) rfl) ev_int rv_sub) (rv_neD (Fit.shaped (Fit.int (n := 0) _) (by decide)) (Fit.shaped (Fit.int (n := 0) _) (by decide))))) fun _ => tv_not (a := true) (tv_B (EvS.asD (ev_cb1 (s := .dat (.list ((is.map fun _ => true).map PyData.bool))) ((ev_lcTm (fun _ => .bool true) (ev_var rfl) fun d hd => ⟨rfl, cg_name (by simp) ⟨rfl, ?_⟩⟩).as (by rw [many_true])) rc_all) (by simp)))) ?_) (fun q => by cases q) fun _ => x_next ?_)
    · obtain ⟨i, hi', rfl⟩ := List.mem_map.mp hd
      exact ev_callD (av_two (ev_var rfl) (ev_var rfl)) (rc_spP (i, n) rfl (hi i hi').1 fun s e => ⟨e, rfl⟩)
    · simp [PyData.eqv, hl]
    refine x_seq (x_asg (EvS.to (ev_lcTm (fun p => .tuple [p, r]) (ev_tail (ev_var rfl)) fun p hp => ⟨by simp [nol, nols, isT_nol hTr, isT_nol (hTp p hp)], cg_name (by simp) ⟨rfl, ?_⟩⟩) ?_))
    · exact ev_if (b := false) ((tv_test (ev_opD (ev_var rfl) ev_str (rv_eqD (Fit.shaped (n := 0) fit_s (by decide)) (Fit.shaped (n := 0) fit_s (by decide))))).as (by decide +kernel)) (fun q => by cases q) fun _ => ev_tup (ds := [p, r]) (av_two (ev_var rfl) (ev_var rfl))
    · have fp : ∀ p ∈ ps, Fit 10 (.tuple [p, r]) := fun p hp => fit_pair ((isT_fit (hTp p hp)).mono (by decide)) (isT_fit hTr)
      have fl : Fit 11 (.list (ps.map fun p => PyData.tuple [p, r])) := Fit.list fun d hd => by
        obtain ⟨p, hp, rfl⟩ := List.mem_map.mp hd
        exact fp p hp
      have eqs : (is.map fun i : Nat => PyData.int (i : Nat)).map (first2 S) = ps.map fun p => PyData.tuple [p, r] := pairs_eq (S := S) (n := n) hl fun k i p a b => by
        obtain ⟨_, w, h⟩ := hk k i p a b
        exact first2_at h
      refine x_ret (EvS.to (EvS.asD (ev_opD (s1 := .dat (.list (ps.map fun p => PyData.tuple [p, r]))) ((ev_lcTm (first2 S) (ev_var rfl) fun d hd => ?_).as (by rw [eqs])) (ev_var rfl) (rv_eqD (fl.shaped (by decide)) (fl.shaped (by decide)))) (by rw [eqv_refl_plain fl.pl])) rfl)
      obtain ⟨i, hi', rfl⟩ := List.mem_map.mp hd
      obtain ⟨_, s, hs'⟩ := hi i hi'
      have hm' := List.mem_of_getElem? hs'
      rw [first2_at hs']
      exact ⟨by simp [nol, nols, isT_nol (hD.tl _ hm'), isT_nol (hD.tr _ hm')], cg_name (by simp) ⟨rfl, ev_first2 (ev_opD (ev_var rfl) (ev_var rfl) (rv_ix (at_steps hs')))⟩⟩
end
end Z
namespace Z
open PySem L2
section
variable {P : Program} {w : World} {K : PySem.W.Frag} {mg : Str → Option Value} {base : Heap}
theorem fit1 {z : Str} (h : PyData.canLay0 (.str z) = true := by decide +kernel) : Fit 1 (.tuple [.str z]) := Fit.tuple fun d hd => by
  rw [List.mem_singleton.mp hd]
  exact Fit.str h
theorem fit_many {k : Str} {is : List Nat} (h : PyData.canLay0 (.str k) = true := by decide +kernel) : Fit 2 (wMany k is) := Fit.tuple fun d hd => by
  rcases List.mem_cons.mp hd with rfl | hd
  · exact Fit.str h
  · rw [List.mem_singleton.mp hd]
    refine Fit.tuple fun e he => ?_
    obtain ⟨i, _, rfl⟩ := List.mem_map.mp he
    exact Fit.int _
theorem fit_chain {i j : Nat} : Fit 1 (wChain i j) := Fit.tuple fun d hd => by
  simp only [List.mem_cons, List.not_mem_nil, or_false] at hd
  rcases hd with rfl | rfl | rfl
  · exact fit_s
  · exact Fit.int _
  · exact Fit.int _
theorem ev_eqd {W : Wd} {ta tb : TE} {δ : List Sl} {g : W.G} {n m : Nat} {d e : PyData} {b : Bool} (ha : EvD K W ta δ g d) (hb : EvD K W tb δ g e) (h1 : Fit n d) (h2 : Fit m e) (hn : n ≤ 64) (hm : m ≤ 64) (hb' : PyData.eqv d e = b) : EvD K W (tOp (rEqD K) ta tb) δ g (.bool b) :=
  EvS.asD (ev_opD ha hb (rv_eqD (h1.shaped hn) (h2.shaped hm))) (by rw [hb'])
theorem ev_ned {W : Wd} {ta tb : TE} {δ : List Sl} {g : W.G} {n m : Nat} {d e : PyData} {b : Bool} (ha : EvD K W ta δ g d) (hb : EvD K W tb δ g e) (h1 : Fit n d) (h2 : Fit m e) (hn : n ≤ 64) (hm : m ≤ 64) (hb' : PyData.eqv d e = !b) : EvD K W (tOp (rNeD K) ta tb) δ g (.bool b) :=
  EvS.asD (ev_opD ha hb (rv_neD (h1.shaped hn) (h2.shaped hm))) (by rw [hb', Bool.not_not])
theorem ev_idx {W : Wd} {ta : TE} {δ : List Sl} {g : W.G} {d e : PyData} {i : Int} (ha : EvD K W ta δ g d) (h : atD d i = some e) (hz : ∀ z, d = .str z → z.length ≤ sizeLine := by intro z h; cases h) : EvD K W (tOp (rIx K) ta (tC (.int i))) δ g e := ev_opD ha ev_int (rv_ix h hz)
theorem x_parD {W : Wd} {ta tb : TE} {δ : List Sl} {g : W.G} {i j : Nat} {s1 s2 : Sl} {P : Po W} (h1 : EvS K W ta δ g (is s1 g)) (h2 : EvS K W tb δ g (is s2 g)) (k : P.nx ((δ.set i s1).set j s2) g) : ExS K W (tPar i j (tCons ta (tCons tb tNil))) δ g P :=
  x_par ((av_two h1 h2).imp fun _ _ ⟨a, b⟩ => ⟨s1, s2, a, by subst b; exact k⟩)
/-- the reason of a step is none of these words -/
theorem tv_not1 {W : Wd} {te : TE} {δ : List Sl} {g : W.G} {n : Nat} {d : PyData} {z : Str} (h : EvD K W te δ g d) (hf : Fit n d) (hn : n ≤ 64) (hz : PyData.canLay0 (.str z) = true) (hb : PyData.eqv d (.tuple [.str z]) = false) : TvD K W (tTest (tOp (rEqD K) te (tTup (tCons (tC (.str z)) tNil)))) δ g false :=
  tv_test (ev_eqd h (ev_tup (ds := [.str z]) (av_one ev_str)) hf (fit1 hz) hn (by decide) hb)
theorem eq_ss : PyData.eqv wSame (.tuple [.str "same"]) = true := by decide +kernel
theorem eq_pp : PyData.eqv wPart (.tuple [.str "part"]) = true := by decide +kernel
theorem ne_ps : PyData.eqv wPart (.tuple [.str "same"]) = false := by decide +kernel
abbrev sp_L_reason (K : PySem.W.Frag) : Sp := spP K (β := List St3 × Nat) (fun x => [.dat (stepsD x.1), .dat (.int x.2), .dat (.list [])]) (fun x => Deriv x.1 ∧ x.2 < x.1.length) (fun x s => s = .dat (.bool true))
theorem ok_L_reason (B : Blt mg) (D_L_reason_right : Def K mg "_law_reason_right" s_L_reason_right p_L_reason_right) (D_L_many_right : Def K mg "_law_many_right" s_L_many_right p_L_many_right) (D_L_index : Def K mg "_law_index" s_L_index p_L_index) : FnOk P w K mg base CX0 3 D_L_reason_right.f D_L_reason_right.fd p_L_reason_right (sp_L_reason K) := by
  have G_L_index : FnOk P w K mg base CX0 1 D_L_index.f D_L_index.fd p_L_index (sp_L_index K) := ok_L_index B D_L_index
  have G_L_many_right : FnOk P w K mg base CX0 2 D_L_many_right.f D_L_many_right.fd p_L_many_right (sp_L_many K) := ok_L_many B D_L_many_right D_L_index
  refine fn_okP D_L_reason_right.fn sc_L_reason_right (fun _ => rfl) fun cdv A outer s H E hr N x hx => ⟨_, (pss_cons (ps_asg (pe_ix (w_ix K) (pv 0) (pv 1) (fun _ _ => rfl)) (pg_tup rfl (pgs_cons (pg_name (i := 3) sc_L_reason_right.nd rfl (by first | exact Or.inl rfl | exact Or.inr rfl)) (pgs_cons (pg_name (i := 4) sc_L_reason_right.nd rfl (by first | exact Or.inl rfl | exact Or.inr rfl)) (pgs_cons (pg_name (i := 5) sc_L_reason_right.nd rfl (by first | exact Or.inl rfl | exact Or.inr rfl)) pgs_nil)))))
  (pss_cons (ps_if (pt_cmpR (w_eqD K hr.units) (pv 5) (pe_tup (pa_cons pe_str pa_nil)) (nomark _)) (pss_one (ps_ret (pe_cmpR (w_eqD K hr.units) (pv 3) (pv 4) (nomark _)))) pss_nil)
  (pss_cons (ps_if (pt_cmpR (w_eqD K hr.units) (pv 5) (pe_tup (pa_cons pe_str pa_nil)) (nomark _)) (pss_cons (ps_set (i := 6) sc_L_reason_right.nd rfl (by first | exact Or.inl rfl | exact Or.inr rfl) (pe_and (pe_callB (w_isi K) (by rfl) B.isinstance bt_isinstance (pa_cons (pv 3) (pa_cons (pe_bltn (v := .ty "tuple") (by rfl) B.tuple_ bt_tuple rfl) pa_nil))) (pe_and (pe_cmpR (w_eqD K hr.units) (pe_ix (w_ix K) (pv 3) pe_int (fun _ _ => rfl)) pe_str (nomark _)) (pe_one (pe_cmpR (w_inDT K hr.units65) (pv 4) (pe_slice (w_slT K) (pv 3) (po_some pe_int) po_none) (by rfl))))))
  (pss_one (ps_ret (pe_or (pv 6) (pe_one (pe_and (pe_callB (w_isi K) (by rfl) B.isinstance bt_isinstance (pa_cons (pv 4) (pa_cons (pe_bltn (v := .ty "tuple") (by rfl) B.tuple_ bt_tuple rfl) pa_nil))) (pe_and (pe_cmpR (w_eqD K hr.units) (pe_ix (w_ix K) (pv 4) pe_int (fun _ _ => rfl)) pe_str (nomark _)) (pe_one (pe_cmpR (w_inDT K hr.units65) (pv 3) (pe_slice (w_slT K) (pv 4) (po_some pe_int) po_none) (by rfl)))))))))) pss_nil)
  (pss_cons (ps_if (PW.pt (pw_and (pt_cmpR (w_eqD K hr.units) (pe_callB (w_len K) (by rfl) B.len bt_len (pa_cons (pv 5) pa_nil)) pe_int (nomark _)) (pw_and1 (pt_cmpR (w_eqD K hr.units) (pe_ix (w_ix K) (pv 5) pe_int (fun _ _ => rfl)) pe_str (nomark _))))) (pss_one (ps_ret (pe_cmpR (w_inD K hr.units65) (pe_tup (pa_cons (pe_ix (w_ix K) (pv 5) pe_int (fun _ _ => rfl)) (pa_cons (pv 3) (pa_cons (pv 4) pa_nil)))) (pv 2) (by rfl)))) pss_nil)
  (pss_cons (ps_if (PW.pt (pw_and (pt_cmpR (w_eqD K hr.units) (pe_callB (w_len K) (by rfl) B.len bt_len (pa_cons (pv 5) pa_nil)) pe_int (nomark _)) (pw_and1 (pt_cmpR (w_in K) (pe_ix (w_ix K) (pv 5) pe_int (fun _ _ => rfl)) (pe_tup (pa_cons pe_str (pa_cons pe_str pa_nil))) (by rfl))))) (pss_one (ps_ret (pe_call G_L_many_right (hr.mono (by omega)) rfl D_L_many_right.g D_L_many_right.fn.kp D_L_many_right.b .nil pass0 (pa_cons (pv 0) (pa_cons (pv 1) (pa_cons (pe_ix (w_ix K) (pv 5) pe_int (fun _ _ => rfl)) pa_nil)))))) pss_nil)
  (pss_cons (ps_if (PW.pt (pw_or (pt_cmpR (w_neD K hr.units) (pe_callB (w_len K) (by rfl) B.len bt_len (pa_cons (pv 5) pa_nil)) pe_int (nomark _)) (pw_or1 (pt_cmpR (w_neD K hr.units) (pe_ix (w_ix K) (pv 5) pe_int (fun _ _ => rfl)) pe_str (nomark _))))) (pss_one (ps_ret pe_bl)) pss_nil)
  (pss_cons (ps_if (PW.pt (pw_or (pt_not (pt_val (pe_call G_L_index (hr.mono (by omega)) rfl D_L_index.g D_L_index.fn.kp D_L_index.b .nil pass0 (pa_cons (pe_ix (w_ix K) (pv 5) pe_int (fun _ _ => rfl)) (pa_cons (pv 1) pa_nil))))) (pw_or1 (pt_not (pt_val (pe_call G_L_index (hr.mono (by omega)) rfl D_L_index.g D_L_index.fn.kp D_L_index.b .nil pass0 (pa_cons (pe_ix (w_ix K) (pv 5) pe_int (fun _ _ => rfl)) (pa_cons (pv 1) pa_nil)))))))) (pss_one (ps_ret pe_bl)) pss_nil)
  (pss_cons (ps_par (i := 7) (j := 8) rfl sc_L_reason_right.nd rfl rfl (by decide) rfl rfl (pa_cons (pe_ix (w_ix K) (pv 0) (pe_ix (w_ix K) (pv 5) pe_int (fun _ _ => rfl)) (fun _ _ => rfl)) (pa_cons (pe_ix (w_ix K) (pv 0) (pe_ix (w_ix K) (pv 5) pe_int (fun _ _ => rfl)) (fun _ _ => rfl)) pa_nil)) (by rfl))
  (pss_one (ps_ret (pe_and (pe_cmpR (w_eqD K hr.units) (pe_ix (w_ix K) (pv 7) pe_int (fun _ _ => rfl)) (pv 3) (nomark _)) (pe_and (pe_cmpR (w_eqD K hr.units) (pe_ix (w_ix K) (pv 7) pe_int (fun _ _ => rfl)) (pe_ix (w_ix K) (pv 8) pe_int (fun _ _ => rfl)) (nomark _)) (pe_one (pe_cmpR (w_eqD K hr.units) (pe_ix (w_ix K) (pv 8) pe_int (fun _ _ => rfl)) (pv 4) (nomark _))))))))))))))), ?_⟩
  obtain ⟨S, n⟩ := x
  obtain ⟨hD, hn⟩ := hx
  dsimp only at hD hn ⊢
  have hs : S[n]? = some S[n] := List.getElem?_eq_getElem hn
  generalize S[n] = st at hs
  have hm := List.mem_of_getElem? hs
  have hR := hD.ok n st hs
  have tl := isT_fit (hD.tl _ hm)
  have tr := isT_fit (hD.tr _ hm)
  refine x_seq (x_asgG (EvS.to (ev_opD (ev_var rfl) (ev_var rfl) (rv_ix (at_steps hs))) (gs_tup rfl (gs_cons (gs_name (gs_cons (gs_name (gs_cons (gs_name (gs_nil ?_))))))))))
  cases hR with
  | @same t =>
    refine x_seq (x_ifD (b := true) (tv_test (ev_eqd (ev_var rfl) (ev_tup (ds := [.str "same"]) (av_one ev_str)) (n := 1) fit1 (m := 1) fit1 (by decide) (by decide) eq_ss)) (fun _ => x_ret (EvS.to (ev_eqd (b := true) (ev_var rfl) (ev_var rfl) tl tr (by decide) (by decide) (eqv_refl_plain tl.pl)) rfl)) fun q => by cases q)
  | @partA ps p hp =>
    refine x_seq (x_ifD (tv_not1 (ev_var rfl) (n := 1) fit1 (by decide) (by decide +kernel) ne_ps) (fun q => by cases q) fun _ => x_next ?_)
    refine x_seq (x_ifD (b := true) (tv_test (ev_eqd (ev_var rfl) (ev_tup (ds := [.str "part"]) (av_one ev_str)) (n := 1) fit1 (m := 1) fit1 (by decide) (by decide) eq_pp)) (fun _ => ?_) fun q => by cases q)
    have fps : Fit 9 (.tuple ps) := Fit.tuple fun d hd => (Fit.tupleInv tl) d (List.mem_cons_of_mem _ hd)
    have hin : (ps.any fun z => PyData.eqv z p) = true := List.any_eq_true.mpr ⟨p, hp, eqv_refl_plain tr.pl⟩
    refine x_seq (x_asg (EvS.to (s := .dat (.bool true)) (EvS.asD (ev_and (a := true) (b := true) ((ev_isTup (ev_var rfl)).asD rfl) fun _ => EvS.asD (ev_and (a := true) (b := true) (ev_eqd (ev_idx (ev_var rfl) at0) ev_str (n := 0) fit_s (m := 0) fit_s (by decide) (by decide) (by decide +kernel)) fun _ => EvS.asD (ev_opD (ev_var rfl) (ev_tail (ev_var rfl)) (rv_inDT (tr.shaped (by decide)) (fps.shaped (by decide)))) (by rw [hin])) rfl) rfl) ?_))
    exact x_ret (EvS.to (ev_or (a := true) (b := false) (ev_var rfl) fun q => by cases q) rfl)
  | @partO ps p hp =>
    refine x_seq (x_ifD (tv_not1 (ev_var rfl) (n := 1) fit1 (by decide) (by decide +kernel) ne_ps) (fun q => by cases q) fun _ => x_next ?_)
    refine x_seq (x_ifD (b := true) (tv_test (ev_eqd (ev_var rfl) (ev_tup (ds := [.str "part"]) (av_one ev_str)) (n := 1) fit1 (m := 1) fit1 (by decide) (by decide) eq_pp)) (fun _ => ?_) fun q => by cases q)
    have fps : Fit 9 (.tuple ps) := Fit.tuple fun d hd => (Fit.tupleInv tr) d (List.mem_cons_of_mem _ hd)
    have hin : (ps.any fun z => PyData.eqv z p) = true := List.any_eq_true.mpr ⟨p, hp, eqv_refl_plain tl.pl⟩
    have hmT := hD.tl _ hm
    obtain ⟨b, hb⟩ : ∃ b, EvD K (PW N) (tAndV (tCB (rIsi K) (tCons (tVar 3) (tCons (tC (.ty "tuple")) tNil))) (tAndV (tOp (rEqD K) (tOp (rIx K) (tVar 3) (tC (.int 0))) (tC (.str "&"))) (tOp (rInDT K) (tVar 4) (tSl (rSlT K) (tVar 3) (tPart (tC (.int 1))) tNoPart)))) (((((startS n_L_reason_right [.dat (stepsD S), .dat (.int n), .dat (.list [])]).set 3 (.dat p)).set 4 (.dat (node BAR ps))).set 5 (.dat wPart))) () (.bool b) := by
      obtain ⟨m, e, c⟩ := isT_cases hmT
      cases e
      rcases c with ⟨z, rfl, hz⟩ | ⟨o, qs, rfl, h1, h2, h3⟩
      · exact ⟨_, ev_and (a := false) (b := false) ((ev_isTup (ev_var rfl)).asD rfl) fun q => by cases q⟩
      · have fqs : Fit 9 (.tuple qs) := Fit.tuple fun d hd => (Fit.tupleInv tl) d (List.mem_cons_of_mem _ hd)
        exact ⟨_, ev_and (a := true) ((ev_isTup (ev_var rfl)).asD rfl) fun _ => ev_and (ev_eqd (b := PyData.eqv (.str o) (.str "&")) (ev_idx (ev_var rfl) at0) ev_str (n := 0) (Fit.str (strOk_op h1)) (m := 0) fit_s (by decide) (by decide) rfl) fun _ => ev_opD (ev_var rfl) (ev_tail (ev_var rfl)) (rv_inDT (tr.shaped (by decide)) (fqs.shaped (by decide)))⟩
    refine x_seq (x_asg (EvS.to hb ?_))
    refine x_ret (EvS.to (ev_or (a := b) (b := true) (ev_var rfl) fun _ => EvS.asD (ev_and (a := true) (b := true) ((ev_isTup (ev_var rfl)).asD rfl) fun _ => EvS.asD (ev_and (a := true) (b := true) (ev_eqd (ev_idx (ev_var rfl) at0) ev_str (n := 0) fit_s (m := 0) fit_s (by decide) (by decide) (by decide +kernel)) fun _ => EvS.asD (ev_opD (ev_var rfl) (ev_tail (ev_var rfl)) (rv_inDT (tl.shaped (by decide)) (fps.shaped (by decide)))) (by rw [hin])) rfl) rfl) ?_)
    show Sl.dat (.bool (b || true)) = .dat (.bool true)
    rw [Bool.or_true]
  | @chain i j a b c w1 w2 hi hj h1 h2 =>
    refine x_seq (x_ifD (tv_not1 (ev_var rfl) (n := 1) fit_chain (by decide) (by decide +kernel) (by simp [PyData.eqv, PyData.eqvAll])) (fun q => by cases q) fun _ => x_next ?_)
    refine x_seq (x_ifD (tv_not1 (ev_var rfl) (n := 1) fit_chain (by decide) (by decide +kernel) (by simp [PyData.eqv, PyData.eqvAll])) (fun q => by cases q) fun _ => x_next ?_)
    have l3 : ∀ {x : PyData}, lenD (wChain i j) = some 3 := rfl
    refine x_seq (x_ifD (b := false) (TvS.as (tv_and (a := false) (b := false) (tv_test (ev_eqd (ev_len (ev_var rfl) (n := 3) rfl) ev_int (n := 0) (Fit.int _) (m := 0) (Fit.int _) (by decide) (by decide) (by decide +kernel))) fun q => by cases q) rfl) (fun q => by cases q) fun _ => x_next ?_)
    refine x_seq (x_ifD (b := false) (TvS.as (tv_and (a := false) (b := false) (tv_test (ev_eqd (ev_len (ev_var rfl) (n := 3) rfl) ev_int (n := 0) (Fit.int _) (m := 0) (Fit.int _) (by decide) (by decide) (by decide +kernel))) fun q => by cases q) rfl) (fun q => by cases q) fun _ => x_next ?_)
    refine x_seq (x_ifD (b := false) (TvS.as (tv_or (a := false) (b := false) (tv_test (ev_ned (ev_len (ev_var rfl) (n := 3) rfl) ev_int (n := 0) (Fit.int _) (m := 0) (Fit.int _) (by decide) (by decide) (by decide +kernel))) fun _ => tv_test (ev_ned (ev_idx (ev_var rfl) at0) ev_str (n := 0) fit_s (m := 0) fit_s (by decide) (by decide) (by decide +kernel))) rfl) (fun q => by cases q) fun _ => x_next ?_)
    refine x_seq (x_ifD (b := false) (TvS.as (tv_or (a := false) (b := false) (tv_not (a := true) (tv_B (ev_callD (av_two (ev_idx (ev_var rfl) at1) (ev_var rfl)) (rc_spP (i, n) rfl hi fun s e => ⟨e, rfl⟩)))) fun _ => tv_not (a := true) (tv_B (ev_callD (av_two (ev_idx (ev_var rfl) at2) (ev_var rfl)) (rc_spP (j, n) rfl hj fun s e => ⟨e, rfl⟩)))) rfl) (fun q => by cases q) fun _ => x_next ?_)
    have t1 := isT_fit (hD.tr _ (List.mem_of_getElem? h1))
    refine x_seq (x_parD (ev_opD (ev_var rfl) (ev_idx (ev_var rfl) at1) (rv_ix (at_steps h1))) (ev_opD (ev_var rfl) (ev_idx (ev_var rfl) at2) (rv_ix (at_steps h2))) ?_)
    refine x_ret (EvS.to (EvS.asD (ev_and (a := true) (b := true) (ev_eqd (ev_idx (ev_var rfl) at0) (ev_var rfl) tl tl (by decide) (by decide) (eqv_refl_plain tl.pl)) fun _ => EvS.asD (ev_and (a := true) (b := true) (ev_eqd (ev_idx (ev_var rfl) at1) (ev_idx (ev_var rfl) at0) t1 t1 (by decide) (by decide) (eqv_refl_plain t1.pl)) fun _ => ev_eqd (ev_idx (ev_var rfl) at1) (ev_var rfl) tr tr (by decide) (by decide) (eqv_refl_plain tr.pl)) rfl) rfl) rfl)
  | @into l ps is h1 h2 =>
    refine x_seq (x_ifD (tv_not1 (ev_var rfl) (n := 2) fit_many (by decide) (by decide +kernel) (by simp [PyData.eqv, PyData.eqvAll])) (fun q => by cases q) fun _ => x_next ?_)
    refine x_seq (x_ifD (tv_not1 (ev_var rfl) (n := 2) fit_many (by decide) (by decide +kernel) (by simp [PyData.eqv, PyData.eqvAll])) (fun q => by cases q) fun _ => x_next ?_)
    refine x_seq (x_ifD (b := false) (TvS.as (tv_and (a := true) (b := false) (tv_test (ev_eqd (ev_len (ev_var rfl) (n := 2) rfl) ev_int (n := 0) (Fit.int _) (m := 0) (Fit.int _) (by decide) (by decide) (by decide +kernel))) fun _ => tv_test (ev_eqd (ev_idx (ev_var rfl) at0) ev_str (n := 0) fit_s (m := 0) fit_s (by decide) (by decide) (by decide +kernel))) rfl) (fun q => by cases q) fun _ => x_next ?_)
    refine x_seq (x_ifD (b := true) (TvS.as (tv_and (a := true) (b := true) (tv_test (ev_eqd (ev_len (ev_var rfl) (n := 2) rfl) ev_int (n := 0) (Fit.int _) (m := 0) (Fit.int _) (by decide) (by decide) (by decide +kernel))) fun _ => TvS.as (tv_test (ev_opD (ev_idx (ev_var rfl) at0) (ev_tup (ds := [.str "into", .str "out"]) (av_two ev_str ev_str)) (rv_inF (neg := false) rfl (by decide) (.inl rfl)))) (by decide +kernel)) rfl) (fun _ => ?_) fun q => by cases q)
    exact x_ret (ev_callD (av_cons (ev_var rfl) (av_two (ev_var rfl) (ev_idx (ev_var rfl) at1))) (rc_spP (S, n, is) rfl ⟨hD, .inl ⟨l, ps, hs, h1, h2⟩⟩ fun s e => e))
  | @out r ps is h1 h2 =>
    refine x_seq (x_ifD (tv_not1 (ev_var rfl) (n := 2) fit_many (by decide) (by decide +kernel) (by simp [PyData.eqv, PyData.eqvAll])) (fun q => by cases q) fun _ => x_next ?_)
    refine x_seq (x_ifD (tv_not1 (ev_var rfl) (n := 2) fit_many (by decide) (by decide +kernel) (by simp [PyData.eqv, PyData.eqvAll])) (fun q => by cases q) fun _ => x_next ?_)
    refine x_seq (x_ifD (b := false) (TvS.as (tv_and (a := true) (b := false) (tv_test (ev_eqd (ev_len (ev_var rfl) (n := 2) rfl) ev_int (n := 0) (Fit.int _) (m := 0) (Fit.int _) (by decide) (by decide) (by decide +kernel))) fun _ => tv_test (ev_eqd (ev_idx (ev_var rfl) at0) ev_str (n := 0) fit_s (m := 0) fit_s (by decide) (by decide) (by decide +kernel))) rfl) (fun q => by cases q) fun _ => x_next ?_)
    refine x_seq (x_ifD (b := true) (TvS.as (tv_and (a := true) (b := true) (tv_test (ev_eqd (ev_len (ev_var rfl) (n := 2) rfl) ev_int (n := 0) (Fit.int _) (m := 0) (Fit.int _) (by decide) (by decide) (by decide +kernel))) fun _ => TvS.as (tv_test (ev_opD (ev_idx (ev_var rfl) at0) (ev_tup (ds := [.str "into", .str "out"]) (av_two ev_str ev_str)) (rv_inF (neg := false) rfl (by decide) (.inl rfl)))) (by decide +kernel)) rfl) (fun _ => ?_) fun q => by cases q)
    exact x_ret (ev_callD (av_cons (ev_var rfl) (av_two (ev_var rfl) (ev_idx (ev_var rfl) at1))) (rc_spP (S, n, is) rfl ⟨hD, .inr ⟨r, ps, hs, h1, h2⟩⟩ fun s e => e))
end
end Z
namespace Z
open PySem L2
section
variable {P : Program} {w : World} {K : PySem.W.Frag} {mg : Str → Option Value} {base : Heap}
theorem right_fit {S : List St3} {n : Nat} {s : St3} (h : Right S n s) : Fit 2 s.why ∧ ∃ c ps, s.why = .tuple (c :: ps) := by
  cases h with
  | same => exact ⟨Fit.mono fit1 (by decide), _, _, rfl⟩
  | partA => exact ⟨Fit.mono fit1 (by decide), _, _, rfl⟩
  | partO => exact ⟨Fit.mono fit1 (by decide), _, _, rfl⟩
  | chain => exact ⟨Fit.mono fit_chain (by decide), _, _, rfl⟩
  | into => exact ⟨fit_many, _, _, rfl⟩
  | out => exact ⟨fit_many, _, _, rfl⟩
theorem Deriv.fit {S : List St3} (h : Deriv S) : Fit 11 (stepsD S) := Fit.list fun d hd => by
  obtain ⟨s, hs, rfl⟩ := List.mem_map.mp hd
  obtain ⟨n, hn⟩ := List.getElem?_of_mem hs
  refine Fit.tuple fun e he => ?_
  simp only [List.mem_cons, List.not_mem_nil, or_false] at he
  rcases he with rfl | rfl | rfl
  · exact (isT_fit (h.tl s hs)).mono (by decide)
  · exact (isT_fit (h.tr s hs)).mono (by decide)
  · exact (right_fit (h.ok n s hn)).1.mono (by decide)
theorem ev_neg {W : Wd} {te : TE} {δ : List Sl} {g : W.G} {i : Int} (h : EvD K W te δ g (.int i)) : EvD K W (tUn (rU fun i => .int (-i)) te) δ g (.int (-i)) := fun σ H j f Q q =>
  h σ H j f _ fun v s g1 H1 e1 i1 r1 ⟨a, b⟩ => by
    subst a; subst b
    cases (show Da K W.N H1 v (.int i) from r1)
    exact ⟨i, rfl, q _ (.dat (.int (-i))) _ H1 e1 i1 (Da.int _) ⟨rfl, rfl⟩⟩
abbrev sp_L_steps (K : PySem.W.Frag) : Sp := spP K (β := List St3 × St3) (fun x => [.dat (.list []), .dat (.tuple [x.2.l, x.2.r]), .dat (stepsD x.1)]) (fun x => Deriv x.1 ∧ ∃ S0, x.1 = S0 ++ [x.2]) (fun x s => s = .dat (.bool true))
theorem ok_L_steps (B : Blt mg) (D_L_steps_right : Def K mg "_law_steps_right" s_L_steps_right p_L_steps_right) (D_L_long : Def K mg "_law_long" s_L_long p_L_long) (D_L_reason_right : Def K mg "_law_reason_right" s_L_reason_right p_L_reason_right)
    (D_L_many_right : Def K mg "_law_many_right" s_L_many_right p_L_many_right) (D_L_index : Def K mg "_law_index" s_L_index p_L_index) : FnOk P w K mg base CX0 11 D_L_steps_right.f D_L_steps_right.fd p_L_steps_right (sp_L_steps K) := by
  have G_L_long : FnOk P w K mg base CX0 10 D_L_long.f D_L_long.fd p_L_long (sp_L_long K 9) := ok_L_long B D_L_long 9
  have G_L_reason_right : FnOk P w K mg base CX0 3 D_L_reason_right.f D_L_reason_right.fd p_L_reason_right (sp_L_reason K) := ok_L_reason B D_L_reason_right D_L_many_right D_L_index
  refine fn_okP D_L_steps_right.fn sc_L_steps_right (fun _ => rfl) fun cdv A outer s H E hr N x hx => ⟨_, (pss_cons (ps_if (PW.pt (pw_or (pt_not (pt_val (pe_callB (w_isi K) (by rfl) B.isinstance bt_isinstance (pa_cons (pv 2) (pa_cons (pe_bltn (v := .ty "list") (by rfl) B.list_ bt_list rfl) pa_nil))))) (pw_or1 (pt_cmpR (w_eqD K hr.units) (pv 2) (pe_lst pa_nil) (nomark _))))) (pss_one (ps_ret pe_bl)) pss_nil)
  (pss_cons (ps_for PassesOwn.never rfl (pi_range1 (by rfl) B.range (pa_cons (pe_callB (w_len K) (by rfl) B.len bt_len (pa_cons (pv 2) pa_nil)) pa_nil)) (pg_name (i := 3) sc_L_steps_right.nd rfl (by first | exact Or.inl rfl | exact Or.inr rfl)) (pss_cons (ps_set (i := 4) sc_L_steps_right.nd rfl (by first | exact Or.inl rfl | exact Or.inr rfl) (pe_ix (w_ix K) (pv 2) (pv 3) (fun _ _ => rfl)))
  (pss_cons (ps_if (PW.pt (pw_or (pt_not (pt_val (pe_callB (w_isi K) (by rfl) B.isinstance bt_isinstance (pa_cons (pv 4) (pa_cons (pe_bltn (v := .ty "tuple") (by rfl) B.tuple_ bt_tuple rfl) pa_nil))))) (pw_or (pt_cmpR (w_neD K hr.units) (pe_callB (w_len K) (by rfl) B.len bt_len (pa_cons (pv 4) pa_nil)) pe_int (nomark _)) (pw_or (pt_not (pt_val (pe_callB (w_isi K) (by rfl) B.isinstance bt_isinstance (pa_cons (pe_ix (w_ix K) (pv 4) pe_int (fun _ _ => rfl)) (pa_cons (pe_bltn (v := .ty "tuple") (by rfl) B.tuple_ bt_tuple rfl) pa_nil))))) (pw_or1 (pt_cmpR (w_eqD K hr.units) (pe_ix (w_ix K) (pv 4) pe_int (fun _ _ => rfl)) (pe_tup pa_nil) (nomark _))))))) (pss_one (ps_ret pe_bl)) pss_nil)
  (pss_one (ps_if (PW.pt (pw_or (pt_not (pt_val (pe_call G_L_long (hr.mono (by omega)) rfl D_L_long.g D_L_long.fn.kp D_L_long.b .nil pass0 (pa_cons (pe_ix (w_ix K) (pv 4) pe_int (fun _ _ => rfl)) (pa_cons pe_int pa_nil))))) (pw_or (pt_not (pt_val (pe_call G_L_long (hr.mono (by omega)) rfl D_L_long.g D_L_long.fn.kp D_L_long.b .nil pass0 (pa_cons (pe_ix (w_ix K) (pv 4) pe_int (fun _ _ => rfl)) (pa_cons pe_int pa_nil))))) (pw_or1 (pt_not (pt_val (pe_call G_L_reason_right (hr.mono (by omega)) rfl D_L_reason_right.g D_L_reason_right.fn.kp D_L_reason_right.b .nil pass0 (pa_cons (pv 2) (pa_cons (pv 3) (pa_cons (pv 0) pa_nil)))))))))) (pss_one (ps_ret pe_bl)) pss_nil)))))
  (pss_one (ps_ret (pe_cmpR (w_eqD K hr.units) (pe_slice (w_slT K) (pe_ix (w_ix K) (pv 2) (pe_un un_neg pe_int) (fun _ _ => rfl)) po_none (po_some pe_int)) (pv 1) (nomark _)))))), ?_⟩
  obtain ⟨S, st⟩ := x
  obtain ⟨hD, S0, hS⟩ := hx
  dsimp only at hD hS ⊢
  have hst : st ∈ S := by rw [hS]; simp
  have tl := isT_fit (hD.tl _ hst)
  have tr := isT_fit (hD.tr _ hst)
  have hlen : S.length ≤ 1000000 := hD.len
  refine x_seq (x_ifD (b := false) (TvS.as (tv_or (a := false) (b := false) (tv_not (a := true) ((tv_B (ev_isList (ev_var rfl))).as rfl)) fun _ => tv_test (ev_eqd (ev_var rfl) (ev_lst (ds := []) av_nil) hD.fit (m := 1) (Fit.list fun d hd => by cases hd) (by decide) (by decide) (by rw [hS]; cases S0 <;> simp [PyData.eqv, PyData.eqvAll]))) rfl) (fun q => by cases q) fun _ => x_next ?_)
  refine x_seq (x_forR (n := (S.length : Int)) (av_one (ev_len (ev_var rfl) (n := S.length) (by simp [lenD]))) (by omega) (fun i δ' g' => ∃ x y, δ' = [.dat (.list []), .dat (.tuple [st.l, st.r]), .dat (stepsD S), x, y]) ⟨.no, .no, rfl⟩ (fun i δ' g' hi hJ => ?_) fun δ' g' hJ => ?_)
  · obtain ⟨x, y, rfl⟩ := hJ
    have hil : i < S.length := by omega
    have hs : S[i]? = some S[i] := List.getElem?_eq_getElem hil
    generalize S[i] = si at hs
    have hm := List.mem_of_getElem? hs
    obtain ⟨fw, c, ps, ew⟩ := right_fit (hD.ok i si hs)
    refine gs_name (x_seq (x_asg (EvS.to (ev_opD (ev_var rfl) (ev_var rfl) (rv_ix (at_steps hs))) ?_)))
    have e2 : atD si.d 2 = some (.tuple (c :: ps)) := by rw [← ew]; exact at2
    refine x_seq (x_ifD (b := false) (TvS.as (tv_or (a := false) (b := false) (tv_not (a := true) ((tv_B (ev_isTup (ev_var rfl))).as rfl)) fun _ => TvS.as (tv_or (a := false) (b := false) (tv_test (ev_ned (ev_len (ev_var rfl) (n := 3) rfl) ev_int (n := 0) (Fit.int _) (m := 0) (Fit.int _) (by decide) (by decide) (by decide +kernel))) fun _ => TvS.as (tv_or (a := false) (b := false) (tv_not (a := true) ((tv_B (ev_isTup (ev_idx (ev_var rfl) e2))).as rfl)) fun _ => tv_test (ev_eqd (ev_idx (ev_var rfl) e2) (ev_tup (ds := []) av_nil) (ew ▸ fw) (m := 1) (Fit.tuple fun d hd => by cases hd) (by decide) (by decide) (by simp [PyData.eqv, PyData.eqvAll]))) rfl) rfl) rfl) (fun q => by cases q) fun _ => x_next ?_)
    refine x_ifD (b := false) (TvS.as (tv_or (a := false) (b := false) (tv_not (a := true) (tv_B (ev_callD (av_two (ev_idx (ev_var rfl) at0) ev_int) (rc_spP (si.l, 9) rfl ⟨Nat.le_refl _, hD.tl _ hm⟩ fun s e => ⟨e, rfl⟩)))) fun _ => TvS.as (tv_or (a := false) (b := false) (tv_not (a := true) (tv_B (ev_callD (av_two (ev_idx (ev_var rfl) at1) ev_int) (rc_spP (si.r, 9) rfl ⟨Nat.le_refl _, hD.tr _ hm⟩ fun s e => ⟨e, rfl⟩)))) fun _ => tv_not (a := true) (tv_B (ev_callD (av_cons (ev_var rfl) (av_two (ev_var rfl) (ev_var rfl))) (rc_spP (S, i) rfl ⟨hD, hil⟩ fun s e => ⟨e, rfl⟩)))) rfl) rfl) (fun q => by cases q) fun _ => x_next ⟨_, _, rfl⟩
  · obtain ⟨x, y, rfl⟩ := hJ
    have hat : atD (stepsD S) (-1) = some st.d := by
      show atI (S.map St3.d) (-1) = some st.d
      rw [hS, List.map_append]
      exact atI_last _ _
    exact x_ret (EvS.to (ev_eqd (b := true) (ev_first2 (ev_opD (ev_var rfl) (ev_neg ev_int) (rv_ix hat))) (ev_var rfl) (fit_pair tl tr) (fit_pair tl tr) (by decide) (by decide) (eqv_refl_plain (fit_pair tl tr).pl)) rfl)
end
end Z
/-! the world of a memo -/
namespace Z
open PySem L2

structure MI where
  N : Addr → Prop
  kd : Addr
  l0 : PyData
  r0 : PyData
  obs : List (Addr × HO)
  hk : N kd
  ho : ∀ p ∈ obs, N p.1
  hd : ∀ p ∈ obs, p.1 ≠ kd
  n0 : Nat
  m0 : Nat
  h1 : isT n0 l0 = true
  h2 : isT m0 r0 = true
  sz : (wk l0).length * (wk r0).length ≤ 100000
def WM (x : MI) : Wd where
  G := List Str
  M := fun a => a = x.kd
  N := x.N
  I := fun g H => (∀ a, x.N a → ∃ o, H a = some o) ∧ (∀ p ∈ x.obs, H p.1 = some p.2) ∧ ∃ kvs, H x.kd = some (.dK kvs) ∧ Memo x.l0 x.r0 kvs ∧ ∀ k ∈ g, ∃ v, valV kvs (Sum.inr k : Key) = some v
  sub := fun a e => e ▸ x.hk
  loc := fun {g H H'} i k _ => by
    obtain ⟨a, b, kvs, c, d⟩ := i
    exact ⟨fun y n => (k y n).symm ▸ a y n, fun p hp => (k _ (x.ho p hp)).trans (b p hp), kvs, (k _ x.hk).trans c, d⟩
  trk := fun i n => i.1 _ n
  mu := fun {g H a} i e => by
    obtain ⟨_, _, kvs, c, _⟩ := i
    subst e
    rw [c]
    trivial
theorem Memo.put' {l0 r0 l r : PyData} {kvs : List (Key × V)} {n m n' m' : Nat} (mo : Memo l0 r0 kvs) (hl : l ∈ wk l0) (hr : r ∈ wk r0) : Memo l0 r0 (putK kvs (Sum.inr (keyOf l r) : Key) (.bl (B l r))) := by
  cases q : valV kvs (Sum.inr (keyOf l r) : Key) with
  | none => exact mo.put hl hr q
  | some v =>
    have hany : (kvs.any fun kv => decide (kv.1 = (Sum.inr (keyOf l r) : Key))) = true := by rw [valV_any, q]; rfl
    have e : putK kvs (Sum.inr (keyOf l r) : Key) (.bl (B l r)) = kvs.map (fun kv => if kv.1 = (Sum.inr (keyOf l r) : Key) then (kv.1, V.bl (B l r)) else kv) := by
      unfold putK
      rw [if_pos hany]
    rw [e]
    refine ⟨?_, ?_⟩
    · rw [List.map_map]
      have e2 : kvs.map ((·.1) ∘ fun kv : Key × V => if kv.1 = (Sum.inr (keyOf l r) : Key) then (kv.1, V.bl (B l r)) else kv) = kvs.map (·.1) := List.map_congr_left fun kv _ => by
        show (if kv.1 = (Sum.inr (keyOf l r) : Key) then (kv.1, V.bl (B l r)) else kv).1 = kv.1
        split <;> rfl
      rw [e2]
      exact mo.nd
    · intro kv hkv
      obtain ⟨kv0, h0, rfl⟩ := List.mem_map.mp hkv
      by_cases c : kv0.1 = (Sum.inr (keyOf l r) : Key)
      · rw [if_pos c, c]
        exact ⟨l, r, hl, hr, rfl⟩
      · rw [if_neg c]
        exact mo.ok kv0 h0
section
variable {K : PySem.W.Frag} {x : MI} {δ : List Sl} {g : (WM x).G} {td ty tv : TE} {l r : PyData}
/-- the pair is one of the table's -/
structure InP (x : MI) (l r : PyData) : Prop where
  hl : l ∈ wk x.l0
  hr : r ∈ wk x.r0
theorem InP.tl (p : InP x l r) : isT x.n0 l = true := (wk_isT x.h1 l p.hl).1
theorem InP.tr (p : InP x l r) : isT x.m0 r = true := (wk_isT x.h2 r p.hr).1
theorem tv_memo (p : InP x l r) (hk : EvD K (WM x) ty δ g (.str (keyOf l r))) (hd : EvV K (WM x) td δ g (.ref x.kd)) : TvS K (WM x) (tB (tDNotIn ty td)) δ g (fun b g' => (b = true ∧ g' = g) ∨ (b = false ∧ g' = keyOf l r :: g)) := fun σ H i f Q q =>
  hk σ H i f _ fun v s g1 H1 e1 i1 r1 ⟨a1, b1⟩ => by
    subst a1; subst b1
    cases (show Da K (WM x).N H1 v (.str (keyOf l r)) from r1)
    refine hd σ H1 i1 (f.stp i e1) _ fun v2 s2 g2 H2 e2 i2 r2 ⟨a2, b2⟩ => ?_
    subst a2; subst b2
    cases (show v2 = V.ref x.kd from r2)
    obtain ⟨t1, t2, kvs, t3, t4, t5⟩ := id i2
    refine ⟨x.kd, _, rfl, DGet.k (k := Sum.inr (keyOf l r)) t3, _, rfl, ?_⟩
    cases e : valV kvs (Sum.inr (keyOf l r) : Key) with
    | none => exact q true _ H2 (e1.trans e2) i2 (.inl ⟨rfl, rfl⟩)
    | some w =>
      refine q false (keyOf l r :: _) H2 (e1.trans e2) ⟨t1, t2, kvs, t3, t4, fun k hk => ?_⟩ (.inr ⟨rfl, rfl⟩)
      rcases List.mem_cons.mp hk with rfl | hk
      · exact ⟨w, e⟩
      · exact t5 k hk
theorem ev_memo (p : InP x l r) (hg : keyOf l r ∈ (show List Str from g)) (hd : EvV K (WM x) td δ g (.ref x.kd)) (hk : EvD K (WM x) ty δ g (.str (keyOf l r))) : EvD K (WM x) (tDGet td ty) δ g (.bool (B l r)) := fun σ H i f Q q =>
  hd σ H i f _ fun v s g1 H1 e1 i1 r1 ⟨a1, b1⟩ => by
    subst a1; subst b1
    cases (show v = V.ref x.kd from r1)
    refine hk σ H1 i1 (f.stp i e1) _ fun v2 s2 g2 H2 e2 i2 r2 ⟨a2, b2⟩ => ?_
    subst a2; subst b2
    cases (show Da K (WM x).N H2 v2 (.str (keyOf l r)) from r2)
    obtain ⟨t1, t2, kvs, t3, t4, t5⟩ := id i2
    obtain ⟨w, hw⟩ := t5 _ hg
    have e := t4.get x.h1 x.h2 p.tl p.tr hw
    refine ⟨x.kd, w, rfl, ?_, ?_⟩
    · have := DGet.k (k := Sum.inr (keyOf l r)) t3
      rw [hw] at this
      exact this
    · subst e
      exact q _ (.dat (.bool (B l r))) _ H2 (e1.trans e2) i2 (Da.bl _) ⟨rfl, rfl⟩
theorem x_memo {P : Po (WM x)} (p : InP x l r) (hv : EvS K (WM x) tv δ g (fun s g1 => s = .dat (.bool (B l r)) ∧ P.nx δ (keyOf l r :: g1))) (hd : ∀ g1, EvV K (WM x) td δ g1 (.ref x.kd)) (hk : ∀ g1, EvD K (WM x) ty δ g1 (.str (keyOf l r))) : ExS K (WM x) (sDPut td ty tv) δ g P := fun D σ H i f d =>
  hv σ H i f _ fun v s g1 H1 e1 i1 r1 ⟨a1, b1⟩ => by
    subst a1
    cases (show Da K (WM x).N H1 v (.bool (B l r)) from r1)
    refine hd g1 σ H1 i1 (f.stp i e1) _ fun v2 s2 g2 H2 e2 i2 r2 ⟨a2, b2⟩ => ?_
    subst a2; subst b2
    cases (show v2 = V.ref x.kd from r2)
    refine hk _ σ H2 i2 ((f.stp i e1).stp i1 e2) _ fun v3 s3 g3 H3 e3 i3 r3 ⟨a3, b3⟩ => ?_
    subst a3; subst b3
    cases (show Da K (WM x).N H3 v3 (.str (keyOf l r)) from r3)
    obtain ⟨t1, t2, kvs, t3, t4, t5⟩ := id i3
    have hz : kvs.length < sizeLine := Nat.lt_of_le_of_lt (Nat.le_trans t4.len x.sz) (by decide)
    refine ⟨x.kd, _, rfl, DPut.k (k := Sum.inr (keyOf l r)) (v := V.bl (B l r)) t3 hz, ?_⟩
    have st : Stp (WM x) H3 (upd H3 x.kd (.dK (putK kvs (Sum.inr (keyOf l r) : Key) (.bl (B l r))))) := ⟨fun a o m q => by
      rw [upd_ne m]
      exact q, fun a o q => by
      by_cases c : a = x.kd
      · exact ⟨_, by rw [c, upd_same]⟩
      · exact ⟨o, by rw [upd_ne c]; exact q⟩⟩
    refine d.nx σ δ (keyOf l r :: _) _ (((e1.trans e2).trans e3).trans st) ⟨fun a n => ?_, fun q hq => ?_, _, upd_same, t4.put' (n := 0) (m := 0) (n' := 0) (m' := 0) p.hl p.hr, fun k hk => ?_⟩ ((((f.stp i e1).stp i1 e2).stp i2 e3).stp i3 st) b1
    · obtain ⟨o, q⟩ := t1 a n
      exact st.there a o q
    · rw [upd_ne (x.hd q hq)]; exact t2 q hq
    · rw [valV_put]
      rcases List.mem_cons.mp hk with rfl | hk
      · exact ⟨_, if_pos rfl⟩
      · split
        · exact ⟨_, rfl⟩
        · exact t5 k hk
end
end Z
namespace Z
open PySem L2
section
variable {K : PySem.W.Frag} {W : Wd} {δ : List Sl} {g : W.G} {tl te : TE} {tg : TG}
/-- each item told by a function, the state may turn -/
theorem ev_lcTs {ds : List PyData} {vs : List Nat} (F : PyData → PyData) (h : EvD K W tl δ g (.tuple ds))
    (hs : ∀ d ∈ ds, nol (F d) = true ∧ ∀ g', CgS K W tg vs (.dat d) (wipeS δ vs) g' fun δ2 g2 => EvS K W te δ2 g2 fun s _ => s = .dat (F d)) : EvS K W (tLc (iTup K tl) tg tYes te vs) δ g fun s _ => s = .dat (.list (ds.map F)) :=
  ev_lcT h (fun i acc _ => acc = (ds.take i).map F) rfl (fun i d acc g' hd _ ha => by
    subst ha
    obtain ⟨hn, hc⟩ := hs d (List.mem_of_getElem? hd)
    refine fun v σ H i' r f Q q => hc g' v σ H i' r f Q fun σ' δ' g' H' e i2 f2 hw he => q σ' δ' g' H' e i2 f2 hw ?_
    exact tv_yes.to ⟨fun _ => he.imp fun s g4 es => ⟨_, es, hn, by rw [List.take_add_one, hd]; simp⟩, fun z => by cases z⟩) fun acc g' _ _ ha => by rw [ha, List.take_length]
theorem ev_lcLs {ds : List PyData} {vs : List Nat} (F : PyData → PyData) (h : EvD K W tl δ g (.list ds))
    (hs : ∀ d ∈ ds, nol (F d) = true ∧ ∀ g', CgS K W tg vs (.dat d) (wipeS δ vs) g' fun δ2 g2 => EvS K W te δ2 g2 fun s _ => s = .dat (F d)) : EvS K W (tLc (iList K tl) tg tYes te vs) δ g fun s _ => s = .dat (.list (ds.map F)) :=
  ev_lcL h (fun i acc _ => acc = (ds.take i).map F) rfl (fun i d acc g' hd _ ha => by
    subst ha
    obtain ⟨hn, hc⟩ := hs d (List.mem_of_getElem? hd)
    refine fun v σ H i' r f Q q => hc g' v σ H i' r f Q fun σ' δ' g' H' e i2 f2 hw he => q σ' δ' g' H' e i2 f2 hw ?_
    exact tv_yes.to ⟨fun _ => he.imp fun s g4 es => ⟨_, es, hn, by rw [List.take_add_one, hd]; simp⟩, fun z => by cases z⟩) fun acc g' _ _ ha => by rw [ha, List.take_length]
/-- a built-in upon what a turn of the state hands back -/
theorem ev_cbS {rc : List V → Hp → VK → Prop} {P1 P : Sl → W.G → Prop} (h : EvS K W te δ g P1) (hr : ∀ s g1, P1 s g1 → RcS K W rc [s] g1 P) : EvS K W (tCB rc (tCons te tNil)) δ g P :=
  ev_cb (av_consS (PA := fun ss g' => ∃ s, ss = [s] ∧ P1 s g') h fun s g1 p => av_nil.imp fun ss g2 ⟨a, b⟩ => ⟨s, by rw [a], by rw [b]; exact p⟩) fun ss g1 ⟨s, e, p⟩ => e ▸ hr s g1 p
theorem RcS.imp {rc : List V → Hp → VK → Prop} {ss : List Sl} {P P' : Sl → W.G → Prop} (h : RcS K W rc ss g P) (k : ∀ s g', P s g' → P' s g') : RcS K W rc ss g P' := fun vs H i r Q q => h vs H i r Q fun v s g' H' a b c p => q v s g' H' a b c (k s g' p)
def hdD : PyData → PyData
  | .tuple (c :: _) => c
  | d => d
theorem at_hd {n : Nat} {d : PyData} (h : isT n d = true) : atD d 0 = some (hdD d) ∧ Fit 0 (hdD d) ∧ ∀ z, d = .str z → z.length ≤ sizeLine := by
  obtain ⟨m, _, c⟩ := isT_cases h
  rcases c with ⟨z, rfl, hz⟩ | ⟨o, ps, rfl, h1, _, _⟩
  · obtain ⟨c, rfl, _⟩ := isLetS_iff.mp hz
    refine ⟨?_, Fit.str (strOk_let hz), fun z e => by cases e; exact one_len c⟩
    show (atI [c] 0).map (fun c => PyData.str ⟨#[c]⟩) = some (.str ⟨#[c]⟩)
    rfl
  · exact ⟨at0, Fit.str (strOk_op h1), fun z e => by cases e⟩
theorem hd_op {n : Nat} {d : PyData} {o : Str} (h : isT n d = true) (ho : isOp o = true) : PyData.eqv (hdD d) (.str o) = opIs o d := by
  obtain ⟨m, _, c⟩ := isT_cases h
  rcases c with ⟨z, rfl, hz⟩ | ⟨o', ps, rfl, h1, _, _⟩
  · show (z == o) = false
    refine beq_eq_false_iff_ne.mpr fun e => ?_
    subst e
    obtain ⟨c, ec, c1, c2⟩ := isLetS_cl hz
    rcases isOp_cl ho with a | a <;> rw [a] at ec <;> simp at ec <;> omega
  · rfl
theorem opA : isOp AMP = true := by decide +kernel
theorem opB : isOp BAR = true := by decide +kernel
/-- is a term's first sign this operator -/
theorem tv_op {n : Nat} {d : PyData} {o : Str} (h : isT n d = true) (ho : isOp o = true) (he : EvD K W te δ g d) : TvD K W (tTest (tOp (rEqD K) (tOp (rIx K) te (tC (.int 0))) (tC (.str o)))) δ g (opIs o d) :=
  tv_test (ev_eqd (ev_idx he (at_hd h).1 (at_hd h).2.2) ev_str (at_hd h).2.1 (m := 0) (Fit.str (strOk_op ho)) (by decide) (by decide) (hd_op h ho))
theorem ev_opIs {n : Nat} {d : PyData} {o : Str} (h : isT n d = true) (ho : isOp o = true) (he : EvD K W te δ g d) : EvD K W (tOp (rEqD K) (tOp (rIx K) te (tC (.int 0))) (tC (.str o))) δ g (.bool (opIs o d)) :=
  ev_eqd (ev_idx he (at_hd h).1 (at_hd h).2.2) ev_str (at_hd h).2.1 (m := 0) (Fit.str (strOk_op ho)) (by decide) (by decide) (hd_op h ho)
theorem opIs_node {o : Str} {d : PyData} (h : opIs o d = true) : d = .tuple (.str o :: partsD d) := by
  match d, h with
  | .tuple (.str o' :: ps), h =>
    have : o' = o := by simpa [opIs] using h
    rw [this]
    rfl
theorem bools {F : PyData → Bool} (ps : List PyData) : (ps.map fun p => PyData.bool (F p)) = (ps.map F).map PyData.bool := by simp
theorem all_id {F : PyData → Bool} (ps : List PyData) : (ps.map F).all id = ps.all F := by simp [List.all_map]
theorem any_id {F : PyData → Bool} (ps : List PyData) : (ps.map F).any id = ps.any F := by simp [List.any_map]
end
section
variable {P : Program} {w : World} {K : PySem.W.Frag} {mg : Str → Option Value} {base : Heap}
/-- the pairs that may be asked at step n -/
structure AskB (n : Nat) (x : MI × PyData × PyData) : Prop where
  n9 : x.1.n0 ≤ 9
  m9 : x.1.m0 ≤ 9
  ll : lv x.1.l0 ≤ 10000
  lr : lv x.1.r0 ≤ 10000
  inp : InP x.1 x.2.1 x.2.2
  ab : ∃ a b, isT a x.2.1 = true ∧ isT b x.2.2 = true ∧ a + b ≤ n
theorem AskB.tl {n : Nat} {x : MI × PyData × PyData} (p : AskB n x) : isT 9 x.2.1 = true ∧ lv x.2.1 ≤ 10000 := by
  obtain ⟨a, b⟩ := wk_isT x.1.h1 _ p.inp.hl
  exact ⟨isT_mono a p.n9, Nat.le_trans b p.ll⟩
theorem AskB.tr {n : Nat} {x : MI × PyData × PyData} (p : AskB n x) : isT 9 x.2.2 = true ∧ lv x.2.2 ≤ 10000 := by
  obtain ⟨a, b⟩ := wk_isT x.1.h2 _ p.inp.hr
  exact ⟨isT_mono a p.m9, Nat.le_trans b p.lr⟩
theorem AskB.left {n : Nat} {x : MI} {l r p : PyData} (h : AskB (n + 1) (x, l, r)) (hp : p ∈ partsD l) : AskB n (x, p, r) := by
  obtain ⟨a, b, h1, h2, hab⟩ := h.ab
  obtain ⟨k, e, hk⟩ := parts_T h1 hp
  exact ⟨h.n9, h.m9, h.ll, h.lr, ⟨wk_part x.h1 h.inp.hl hp, h.inp.hr⟩, k, b, hk, h2, by omega⟩
theorem AskB.right {n : Nat} {x : MI} {l r p : PyData} (h : AskB (n + 1) (x, l, r)) (hp : p ∈ partsD r) : AskB n (x, l, p) := by
  obtain ⟨a, b, h1, h2, hab⟩ := h.ab
  obtain ⟨k, e, hk⟩ := parts_T h2 hp
  exact ⟨h.n9, h.m9, h.ll, h.lr, ⟨h.inp.hl, wk_part x.h2 h.inp.hr hp⟩, a, k, h1, hk, by omega⟩
theorem AskB.B {n : Nat} {x : MI} {l r : PyData} (h : AskB n (x, l, r)) : B l r = Bstep l r := B_eq h.tl.1 h.tr.1 (by decide)
abbrev sp_L_below (K : PySem.W.Frag) (n : Nat) : Sp := spG K (α := MI × PyData × PyData) (fun x => WM x.1) (fun _ => ([] : List Str)) (fun x => [.dat x.2.1, .dat x.2.2, .val (.ref x.1.kd)]) (AskB n) (fun x s _ => s = .dat (.bool (B x.2.1 x.2.2)))
theorem rc_below {n : Nat} {x : MI} {l r : PyData} {g : (WM x).G} {P : Sl → (WM x).G → Prop} {E : XK} (h : AskB n (x, l, r)) (k : ∀ g', P (.dat (.bool (B l r))) g') : RcS K (WM x) (fun vs H Q => sp_L_below K n vs H Q E) [.dat l, .dat r, .val (.ref x.kd)] g P :=
  rc_spG (α := MI × PyData × PyData) (x, l, r) rfl h rfl (fun _ m => m) (fun H i => by
    obtain ⟨a, b, kvs, c, d, _⟩ := i
    exact ⟨a, b, kvs, c, d, fun k hk => by cases hk⟩) fun s g' H H' _ _ i' e => ⟨g', i', by rw [e]; exact k g'⟩
theorem ok_L_below (Bt : Blt mg) (D_L_below : Def K mg "_law_below" s_L_below p_L_below) (D_L_below_now : Def K mg "_law_below_now" s_L_below_now p_L_below_now) (D_L_text : Def K mg "_law_text" s_L_text p_L_text) :
    ∀ n, FnOk P w K mg base CX0 (2 * n + 12) D_L_below.f D_L_below.fd p_L_below (sp_L_below K n) := by
  have B := Bt
  intro n
  have G_L_text : FnOk P w K mg base CX0 10 D_L_text.f D_L_text.fd p_L_text (sp_text K 9) := ok_L_text B D_L_text 9
  induction n with
  | zero =>
    refine fn_void fun x h => ?_
    obtain ⟨a, b, h1, _, hab⟩ := h.ab
    have : a = 0 := by omega
    subst this
    simp [isT] at h1
  | succ n ih =>
    have G_L_below := ih
    have G_L_below_now : FnOk P w K mg base CX0 (2 * n + 13) D_L_below_now.f D_L_below_now.fd p_L_below_now (sp_L_below K (n + 1)) := by
      refine fn_okG (α := MI × PyData × PyData) D_L_below_now.fn sc_L_below_now (fun _ => rfl) fun cdv A outer s H E hr x hx => ⟨_, (pss_cons (ps_if (pt_cmpR (w_eqD K hr.units) (pv 0) (pv 1) (nomark _)) (pss_one (ps_ret pe_bl)) pss_nil)
  (pss_cons (ps_if (pt_cmpR (w_eqD K hr.units) (pe_ix (w_ix K) (pv 0) pe_int (fun _ _ => rfl)) pe_str (nomark _)) (pss_one (ps_ret (pe_callB (w_all K rfl) (by rfl) B.all bt_all (pa_cons (pe_lc (own := [("_law_part", 3)]) (g := gName 3) (tt := tYes) (by rfl) sc_L_below_now.nd (pi_tup (pe_slice (w_slT K) (pv 0) (po_some pe_int) po_none)) (blkOk_by (N := n_L_below_now) (sc := defScope s_L_below_now) (by decide +kernel)) (fun _ _ _ _ _ => (pg_name (i := 3) sc_L_below_now.nd rfl (by first | exact Or.inl rfl | exact Or.inr rfl))) (fun _ _ _ _ _ => pts_nil) (fun _ _ _ _ _ => (pe_call G_L_below (hr.mono (by omega)) rfl D_L_below.g D_L_below.fn.kp D_L_below.b .nil pass0 (pa_cons (pv 3) (pa_cons (pv 1) (pa_cons (pv 2) pa_nil)))))) pa_nil)))) pss_nil)
  (pss_cons (ps_if (pt_cmpR (w_eqD K hr.units) (pe_ix (w_ix K) (pv 1) pe_int (fun _ _ => rfl)) pe_str (nomark _)) (pss_one (ps_ret (pe_callB (w_all K rfl) (by rfl) B.all bt_all (pa_cons (pe_lc (own := [("_law_part", 3)]) (g := gName 3) (tt := tYes) (by rfl) sc_L_below_now.nd (pi_tup (pe_slice (w_slT K) (pv 1) (po_some pe_int) po_none)) (blkOk_by (N := n_L_below_now) (sc := defScope s_L_below_now) (by decide +kernel)) (fun _ _ _ _ _ => (pg_name (i := 3) sc_L_below_now.nd rfl (by first | exact Or.inl rfl | exact Or.inr rfl))) (fun _ _ _ _ _ => pts_nil) (fun _ _ _ _ _ => (pe_call G_L_below (hr.mono (by omega)) rfl D_L_below.g D_L_below.fn.kp D_L_below.b .nil pass0 (pa_cons (pv 0) (pa_cons (pv 3) (pa_cons (pv 2) pa_nil)))))) pa_nil)))) pss_nil)
  (pss_cons (ps_if (PW.pt (pw_and (pt_cmpR (w_eqD K hr.units) (pe_ix (w_ix K) (pv 1) pe_int (fun _ _ => rfl)) pe_str (nomark _)) (pw_and1 (pt_val (pe_callB (w_any K rfl) (by rfl) B.any bt_any (pa_cons (pe_lc (own := [("_law_part", 3)]) (g := gName 3) (tt := tYes) (by rfl) sc_L_below_now.nd (pi_tup (pe_slice (w_slT K) (pv 1) (po_some pe_int) po_none)) (blkOk_by (N := n_L_below_now) (sc := defScope s_L_below_now) (by decide +kernel)) (fun _ _ _ _ _ => (pg_name (i := 3) sc_L_below_now.nd rfl (by first | exact Or.inl rfl | exact Or.inr rfl))) (fun _ _ _ _ _ => pts_nil) (fun _ _ _ _ _ => (pe_call G_L_below (hr.mono (by omega)) rfl D_L_below.g D_L_below.fn.kp D_L_below.b .nil pass0 (pa_cons (pv 0) (pa_cons (pv 3) (pa_cons (pv 2) pa_nil)))))) pa_nil)))))) (pss_one (ps_ret pe_bl)) pss_nil)
  (pss_one (ps_ret (pe_and (pe_cmpR (w_eqD K hr.units) (pe_ix (w_ix K) (pv 0) pe_int (fun _ _ => rfl)) pe_str (nomark _)) (pe_one (pe_callB (w_any K rfl) (by rfl) B.any bt_any (pa_cons (pe_lc (own := [("_law_part", 3)]) (g := gName 3) (tt := tYes) (by rfl) sc_L_below_now.nd (pi_tup (pe_slice (w_slT K) (pv 0) (po_some pe_int) po_none)) (blkOk_by (N := n_L_below_now) (sc := defScope s_L_below_now) (by decide +kernel)) (fun _ _ _ _ _ => (pg_name (i := 3) sc_L_below_now.nd rfl (by first | exact Or.inl rfl | exact Or.inr rfl))) (fun _ _ _ _ _ => pts_nil) (fun _ _ _ _ _ => (pe_call G_L_below (hr.mono (by omega)) rfl D_L_below.g D_L_below.fn.kp D_L_below.b .nil pass0 (pa_cons (pv 3) (pa_cons (pv 1) (pa_cons (pv 2) pa_nil)))))) pa_nil)))))))))), ?_⟩
      obtain ⟨x, l, r⟩ := x
      have tl := hx.tl.1
      have tr := hx.tr.1
      have hB := hx.B
      dsimp only at tl tr ⊢
      rw [hB]
      unfold Bstep
      refine x_seq (x_ifD (b := PyData.eqv l r) (tv_test (ev_eqd (ev_var rfl) (ev_var rfl) (isT_fit tl) (isT_fit tr) (by decide) (by decide) rfl)) (fun q => x_ret (ev_bl.to (by rw [if_pos q]))) fun q => x_next ?_)
      rw [if_neg (by rw [q]; decide)]
      refine x_seq (x_ifD (tv_op tl opB (ev_var rfl)) (fun q => x_ret ?_) fun q => x_next ?_)
      · rw [if_pos q]
        have en := opIs_node q
        refine ev_cbS (ev_lcTs (fun p => .bool (Z.B p r)) (ev_tail (ev_var (by rw [← en]; rfl))) fun p hp => ⟨rfl, fun g' => cg_name (by simp) ?_⟩) fun s g1 es => ?_
        · exact ev_callD (av_cons (ev_var rfl) (av_two (ev_var rfl) (ev_var rfl))) (rc_below (hx.left hp) fun g' => rfl)
        · subst es
          rw [bools]
          refine RcS.imp rc_all fun s g2 ⟨e, _⟩ => ?_
          rw [e, all_id]
      rw [if_neg (by rw [q]; decide)]
      refine x_seq (x_ifD (tv_op tr opA (ev_var rfl)) (fun q => x_ret ?_) fun q => x_next ?_)
      · rw [if_pos q]
        have en := opIs_node q
        refine ev_cbS (ev_lcTs (fun p => .bool (Z.B l p)) (ev_tail (ev_var (by rw [← en]; rfl))) fun p hp => ⟨rfl, fun g' => cg_name (by simp) ?_⟩) fun s g1 es => ?_
        · exact ev_callD (av_cons (ev_var rfl) (av_two (ev_var rfl) (ev_var rfl))) (rc_below (hx.right hp) fun g' => rfl)
        · subst es
          rw [bools]
          refine RcS.imp rc_all fun s g2 ⟨e, _⟩ => ?_
          rw [e, all_id]
      rw [if_neg (by rw [q]; decide)]
      refine x_seq (x_if (TvS.imp (P := fun b _ => b = (opIs BAR r && (partsD r).any fun p => Z.B l p)) (tv_andS (tv_op tr opB (ev_var rfl)) (fun g1 h => ?_) fun g1 h => ?_) fun b g' e => ⟨fun hb => x_ret (ev_bl.to ?_), fun hb => x_next ?_⟩))
      · obtain ⟨q, z⟩ := h
        subst z
        have en := opIs_node q.symm
        refine tv_BS (EvS.imp (P := fun s _ => s = .dat (.bool ((partsD r).any fun p => Z.B l p))) (ev_cbS (ev_lcTs (fun p => .bool (Z.B l p)) (ev_tail (ev_var (by rw [← en]; rfl))) fun p hp => ⟨rfl, fun g' => cg_name (by simp) ?_⟩) fun s g1 es => ?_) fun s g1 e => ⟨_, e, by rw [← q, Bool.true_and]⟩)
        · exact ev_callD (av_cons (ev_var rfl) (av_two (ev_var rfl) (ev_var rfl))) (rc_below (hx.right hp) fun g' => rfl)
        · subst es
          rw [bools]
          exact RcS.imp rc_any fun s g2 ⟨e, _⟩ => by rw [e, any_id]
      · rw [← h.1, Bool.false_and]
      · rw [← e, hb, Bool.true_or]
      · have e2 : (opIs BAR r && (partsD r).any fun p => Z.B l p) = false := by rw [← e, hb]
        rw [e2, Bool.false_or]
        refine x_ret (ev_andS (ev_opIs tl opA (ev_var rfl)) (fun s g1 h => ⟨_, h.1⟩) (fun g1 h => ?_) fun g1 h => ?_)
        · obtain ⟨q, z⟩ := h
          injection q with q
          injection q with q
          have en := opIs_node q.symm
          refine EvS.imp (P := fun s _ => s = .dat (.bool ((partsD l).any fun p => Z.B p r))) (ev_cbS (ev_lcTs (fun p => .bool (Z.B p r)) (ev_tail (ev_var (by rw [← en]; rfl))) fun p hp => ⟨rfl, fun g' => cg_name (by simp) ?_⟩) fun s g1 es => ?_) fun s g1 e => by rw [e, ← q, Bool.true_and]
          · exact ev_callD (av_cons (ev_var rfl) (av_two (ev_var rfl) (ev_var rfl))) (rc_below (hx.left hp) fun g' => rfl)
          · subst es
            rw [bools]
            exact RcS.imp rc_any fun s g2 ⟨e, _⟩ => by rw [e, any_id]
        · obtain ⟨q, z⟩ := h
          injection q with q
          injection q with q
          show Sl.dat (.bool false) = .dat (.bool (opIs AMP l && (partsD l).any fun p => Z.B p r))
          rw [← q, Bool.false_and]
    refine fn_okG (α := MI × PyData × PyData) D_L_below.fn sc_L_below (fun _ => rfl) fun cdv A outer s H E hr x hx => ⟨_, (pss_cons (ps_set (i := 3) sc_L_below.nd rfl (by first | exact Or.inl rfl | exact Or.inr rfl) (pe_op op_add_str (pe_op op_add_str (pe_call G_L_text (hr.mono (by omega)) rfl D_L_text.g D_L_text.fn.kp D_L_text.b .nil pass0 (pa_cons (pv 0) pa_nil)) pe_str) (pe_call G_L_text (hr.mono (by omega)) rfl D_L_text.g D_L_text.fn.kp D_L_text.b .nil pass0 (pa_cons (pv 1) pa_nil))))
  (pss_cons (ps_if (pt_cmp (pc_dnotin (hu_of hr) (pv 3) (pv 2)) (by rfl)) (pss_one (ps_dput (hu_of hr) (pv 2) (pv 3) (pe_call G_L_below_now (hr.mono (by omega)) rfl D_L_below_now.g D_L_below_now.fn.kp D_L_below_now.b .nil pass0 (pa_cons (pv 0) (pa_cons (pv 1) (pa_cons (pv 2) pa_nil)))) rfl)) pss_nil)
  (pss_one (ps_ret (pe_dget (hu_of hr) (pv 2) (pv 3) (fun _ _ => rfl)))))), ?_⟩
    obtain ⟨x, l, r⟩ := x
    have tl := hx.tl
    have tr := hx.tr
    have hll := (tx_len tl.1).1
    have hlr := (tx_len tr.1).1
    dsimp only at tl tr hll hlr ⊢
    have l1 : (tx l).length ≤ 80000 := by rw [← cl_len]; omega
    have l2 : (tx r).length ≤ 80000 := by rw [← cl_len]; omega
    have l3 : (tx l ++ LES).length ≤ 80003 := by rw [app_len, les_len]; omega
    refine x_seq (x_asg (EvS.to (s := .dat (.str (keyOf l r))) (ev_opD (ev_opD (ev_callD (av_one (ev_var rfl)) (rc_spP l rfl tl fun s e => ⟨e, rfl⟩)) ev_str (rv_addStr (by rw [les_len]; exact Nat.le_trans (Nat.add_le_add_right l1 3) (by decide)))) (ev_callD (av_one (ev_var rfl)) (rc_spP r rfl tr fun s e => ⟨e, rfl⟩)) (rv_addStr (Nat.le_trans (Nat.add_le_add l3 l2) (by decide)))) ?_))
    refine x_seq (x_if (TvS.imp (tv_memo hx.inp (ev_var rfl) (ev_var rfl)) fun b g' h => ⟨fun hb => x_memo hx.inp (EvS.imp (P := fun s _ => s = .dat (.bool (Z.B l r))) (ev_callD (av_cons (ev_var rfl) (av_two (ev_var rfl) (ev_var rfl))) (rc_below hx fun g' => rfl)) fun s g1 e => ⟨e, ?_⟩) (fun g1 => ev_var rfl) fun g1 => ev_var rfl, fun hb => x_next ?_⟩))
    · exact x_ret (EvS.to (ev_memo hx.inp (List.mem_cons_self (a := keyOf l r) (l := g1)) (ev_var rfl) (ev_var rfl)) rfl)
    · rcases h with ⟨e, _⟩ | ⟨_, e⟩
      · rw [e] at hb; cases hb
      · subst e
        exact x_ret (EvS.to (ev_memo hx.inp (List.mem_cons_self ..) (ev_var rfl) (ev_var rfl)) rfl)
end
end Z
namespace Z
open PySem L2
/-- a method of the class at C -/
structure Mdef (K : PySem.W.Frag) (C : Addr) (m qual : Str) (st : Stmt) (ps : List Str) where
  f : Addr
  fd : FuncData
  fn : Fun K m qual st f fd
  b : Binds K fd ps []
  me : Meth K C m f
/-- the class Free -/
structure ClF (K : PySem.W.Frag) (C : Addr) : Prop where
  cl : Cls K C
  known : NoAttr K C "known"
  steps : NoAttr K C "steps"
  place : NoAttr K C "place"
abbrev flF (kd ld pd : Addr) : List (Str × V) := [("known", .ref kd), ("steps", .ref ld), ("place", .ref pd)]
theorem lk_put (f g : Str) (y : V) (fs : List (Str × V)) : ((f, y) :: fs).lookup g = if g = f then some y else fs.lookup g := by
  by_cases h : g = f
  · rw [if_pos h, h]
    exact List.lookup_cons_self
  · have e : (g == f) = false := by simpa using h
    rw [if_neg h, List.lookup_cons, e]
theorem flF_known {kd ld pd : Addr} : (flF kd ld pd).lookup ("known" : Str) = some (.ref kd) := by
  rw [flF, lk_put, if_pos rfl]
theorem flF_no {kd ld pd : Addr} {m : Str} (h1 : ¬ m = "known") (h2 : ¬ m = "steps") (h3 : ¬ m = "place") : (flF kd ld pd).lookup m = none := by
  rw [flF, lk_put, if_neg h1, lk_put, if_neg h2, lk_put, if_neg h3]
  rfl
structure FI (C : Addr) where
  x : MI
  sa : Addr
  dx : Addr
  ld : Addr
  pd : Addr
  ob : (sa, HO.ins C dx (flF x.kd ld pd)) ∈ x.obs
section
variable {K : PySem.W.Frag} {W : Wd} {δ : List Sl} {g : W.G} {te : TE}
theorem ev_notNS {d : PyData} {P : Sl → W.G → Prop} (h : EvS K W te δ g fun s _ => s = .dat d) (k : ∀ g', P (.dat (.bool (match d with | .none => false | _ => true))) g') : EvS K W (tNotN te) δ g P := fun σ H i f Q q =>
  h σ H i f _ fun v s g1 H1 e1 i1 r1 a => by
    subst a
    have r' : Da K W.N H1 v d := r1
    refine q _ (.dat (.bool _)) _ H1 e1 i1 ?_ (k g1)
    cases r' <;> exact Da.bl _
theorem x_seqM {t u : TS} {P : Po W} (Mid : List Sl → W.G → Prop) (h : ExS K W t δ g { P with nx := Mid }) (k : ∀ δ' g', Mid δ' g' → ExS K W u δ' g' P) : ExS K W (tSeq t u) δ g P :=
  x_seq (h.imp (fun x y m => k x y m) (fun _ _ z => z) (fun _ _ z => z) fun _ _ z => z)
theorem ev_fld {f : Str} {a : Addr} {v : V} (h : EvV K W te δ g (.ref a)) (ho : ∀ H, W.I g H → ∃ C dx fs, H a = some (.ins C dx fs) ∧ Cls K C ∧ NoAttr K C f ∧ fs.lookup f = some v) : EvV K W (tFld K te f) δ g v := fun σ H i f Q q =>
  h σ H i f _ fun u s g1 H1 e1 i1 r1 ⟨a1, b1⟩ => by
    subst a1; subst b1
    cases (show u = V.ref a from r1)
    obtain ⟨C, dx, fs, h1, h2, h3, h4⟩ := ho H1 i1
    exact ⟨a, C, dx, fs, v, rfl, h1, h2, h3, h4, q v (.val v) _ H1 e1 i1 rfl ⟨rfl, rfl⟩⟩
end
section
variable {P : Program} {w : World} {K : PySem.W.Frag} {mg : Str → Option Value} {base : Heap} {C : Addr}
abbrev spF (K : PySem.W.Frag) (C : Addr) (n : Nat) (F : PyData → PyData → PyData) : Sp := spG K (α := FI C × PyData × PyData) (fun y => WM y.1.x) (fun _ => ([] : List Str)) (fun y => [.val (.ref y.1.sa), .dat y.2.1, .dat y.2.2]) (fun y => AskB n (y.1.x, y.2.1, y.2.2)) (fun y s _ => s = .dat (F y.2.1 y.2.2))
theorem self_at {y : FI C} {g : (WM y.x).G} {H : Hp} (i : (WM y.x).I g H) : H y.sa = some (.ins C y.dx (flF y.x.kd y.ld y.pd)) := i.2.1 _ y.ob
theorem rc_free {n : Nat} {F : PyData → PyData → PyData} {y : FI C} {l r : PyData} {g : (WM y.x).G} {P : Sl → (WM y.x).G → Prop} {E : XK} (h : AskB n (y.x, l, r)) (k : ∀ g', P (.dat (F l r)) g') : RcS K (WM y.x) (fun vs H Q => spF K C n F vs H Q E) [.val (.ref y.sa), .dat l, .dat r] g P :=
  rc_spG (α := FI C × PyData × PyData) (y, l, r) rfl h rfl (fun _ m => m) (fun H i => by
    obtain ⟨a, b, kvs, c, d, _⟩ := i
    exact ⟨a, b, kvs, c, d, fun k hk => by cases hk⟩) fun s g' H H' _ _ i' e => ⟨g', i', by rw [e]; exact k g'⟩
def pB : PyData → Bool
  | .tuple [a, b] => B a b
  | _ => false
theorem find_at {f : PyData → Bool} {ps : List PyData} {i : Nat} {p : PyData} (h : ∀ q ∈ ps.take i, f q = false) (hi : ps[i]? = some p) (hp : f p = true) : ps.find? f = some p := by
  induction ps generalizing i with
  | nil => cases hi
  | cons q ps ih =>
    cases i with
    | zero =>
      cases hi
      rw [List.find?_cons, hp]
    | succ i =>
      rw [List.find?_cons, h q (by simp)]
      exact ih (fun x hx => h x (by simp [hx])) hi
theorem find_none {f : PyData → Bool} {ps : List PyData} (h : ∀ q ∈ ps, f q = false) : ps.find? f = none := List.find?_eq_none.mpr fun q hq => by rw [h q hq]; decide
theorem nol_pair {n m : Nat} {a b : PyData} (h1 : isT n a = true) (h2 : isT m b = true) : nol (pairD a b) = true := by simp [pairD, nol, nols, isT_nol h1, isT_nol h2]
theorem rsn_some {l r : PyData} {n : Nat} {x : MI} (h : AskB n (x, l, r)) : (match rsnD l r with | .none => false | _ => true) = B l r := by
  rw [← rsn_B h.tl.1 h.tr.1 (by decide)]
  unfold rsnD
  cases rsn l r with
  | none => rfl
  | some q => cases q <;> rfl
theorem ok_free (Bt : Blt mg) (CF : ClF K C) (M_is_below : Mdef K C "is_below" "Free.is_below" s_Free_is_below p_Free_is_below) (M_reason_for : Mdef K C "reason_for" "Free.reason_for" s_Free_reason_for p_Free_reason_for) (D_text_of : Def K mg "text_of" s_text_of p_text_of) :
    ∀ n, FnOk P w K mg base CX0 (2 * n + 12) M_is_below.f M_is_below.fd p_Free_is_below (spF K C n fun l r => .bool (B l r)) ∧ FnOk P w K mg base CX0 (2 * n + 11) M_reason_for.f M_reason_for.fd p_Free_reason_for (spF K C n rsnD) := by
  have B := Bt
  intro n
  have G_text_of : FnOk P w K mg base CX0 10 D_text_of.f D_text_of.fd p_text_of (sp_text K 9) := ok_text_of B D_text_of 9
  induction n with
  | zero =>
    refine ⟨fn_void fun x h => ?_, fn_void fun x h => ?_⟩
    all_goals
      obtain ⟨a, b, h1, _, hab⟩ := h.ab
      have : a = 0 := by omega
      subst this
      simp [isT] at h1
  | succ n ih =>
    have G_is_below := ih.1
    have G_reason_for : FnOk P w K mg base CX0 (2 * n + 13) M_reason_for.f M_reason_for.fd p_Free_reason_for (spF K C (n + 1) rsnD) := by
      refine fn_okG (α := FI C × PyData × PyData) M_reason_for.fn sc_Free_reason_for (fun _ => rfl) fun cdv A outer s H E hr y hx => ⟨_, (pss_cons (ps_if (pt_cmpR (w_eqD K hr.units) (pv 1) (pv 2) (nomark _)) (pss_one (ps_ret (pe_tup (pa_cons pe_str (pa_cons (pe_lst pa_nil) pa_nil))))) pss_nil)
  (pss_cons (ps_if (pt_cmpR (w_eqD K hr.units) (pe_ix (w_ix K) (pv 1) pe_int (fun _ _ => rfl)) pe_str (nomark _)) (pss_cons (ps_setLc (i := 3) (own := [("part", 4)]) (g := gName 4) (tt := tYes) rfl sc_Free_reason_for.nd rfl rfl (sw_true rfl rfl rfl (by decide +kernel)) (pi_tup (pe_slice (w_slT K) (pv 1) (po_some pe_int) po_none)) (blkOk_by (N := n_Free_reason_for) (sc := defScope s_Free_reason_for) (by decide +kernel)) (fun _ _ _ _ _ => (pg_name (i := 4) sc_Free_reason_for.nd rfl (by first | exact Or.inl rfl | exact Or.inr rfl))) (fun _ _ _ _ _ => pts_nil) (fun _ _ _ _ _ => (pe_tup (pa_cons (pv 4) (pa_cons (pv 2) pa_nil)))))
  (pss_one (ps_ret (pe_ifExp (pt_val (pe_callB (w_all K rfl) (by rfl) B.all bt_all (pa_cons (pe_lc (own := [("one", 5), ("other", 6)]) (g := gTup K 2 (gCons (gName 5) (gCons (gName 6) gNil))) (tt := tYes) (by rfl) sc_Free_reason_for.nd (pi_list (pv 3)) (blkOk_by (N := n_Free_reason_for) (sc := defScope s_Free_reason_for) (by decide +kernel)) (fun _ _ _ _ _ => (pg_tup rfl (pgs_cons (pg_name (i := 5) sc_Free_reason_for.nd rfl (by first | exact Or.inl rfl | exact Or.inr rfl)) (pgs_cons (pg_name (i := 6) sc_Free_reason_for.nd rfl (by first | exact Or.inl rfl | exact Or.inr rfl)) pgs_nil)))) (fun _ _ _ _ _ => pts_nil) (fun _ _ _ _ _ => (pe_meth (pv 0) CF.cl M_is_below.me G_is_below (hr.mono (by omega)) M_is_below.b .nil pass0 (pa_cons (pv 5) (pa_cons (pv 6) pa_nil))))) pa_nil))) (pe_tup (pa_cons pe_str (pa_cons (pv 3) pa_nil))) pe_non)))) pss_nil)
  (pss_cons (ps_if (pt_cmpR (w_eqD K hr.units) (pe_ix (w_ix K) (pv 2) pe_int (fun _ _ => rfl)) pe_str (nomark _)) (pss_cons (ps_setLc (i := 3) (own := [("part", 4)]) (g := gName 4) (tt := tYes) rfl sc_Free_reason_for.nd rfl rfl (sw_true rfl rfl rfl (by decide +kernel)) (pi_tup (pe_slice (w_slT K) (pv 2) (po_some pe_int) po_none)) (blkOk_by (N := n_Free_reason_for) (sc := defScope s_Free_reason_for) (by decide +kernel)) (fun _ _ _ _ _ => (pg_name (i := 4) sc_Free_reason_for.nd rfl (by first | exact Or.inl rfl | exact Or.inr rfl))) (fun _ _ _ _ _ => pts_nil) (fun _ _ _ _ _ => (pe_tup (pa_cons (pv 1) (pa_cons (pv 4) pa_nil)))))
  (pss_one (ps_ret (pe_ifExp (pt_val (pe_callB (w_all K rfl) (by rfl) B.all bt_all (pa_cons (pe_lc (own := [("one", 5), ("other", 6)]) (g := gTup K 2 (gCons (gName 5) (gCons (gName 6) gNil))) (tt := tYes) (by rfl) sc_Free_reason_for.nd (pi_list (pv 3)) (blkOk_by (N := n_Free_reason_for) (sc := defScope s_Free_reason_for) (by decide +kernel)) (fun _ _ _ _ _ => (pg_tup rfl (pgs_cons (pg_name (i := 5) sc_Free_reason_for.nd rfl (by first | exact Or.inl rfl | exact Or.inr rfl)) (pgs_cons (pg_name (i := 6) sc_Free_reason_for.nd rfl (by first | exact Or.inl rfl | exact Or.inr rfl)) pgs_nil)))) (fun _ _ _ _ _ => pts_nil) (fun _ _ _ _ _ => (pe_meth (pv 0) CF.cl M_is_below.me G_is_below (hr.mono (by omega)) M_is_below.b .nil pass0 (pa_cons (pv 5) (pa_cons (pv 6) pa_nil))))) pa_nil))) (pe_tup (pa_cons pe_str (pa_cons (pv 3) pa_nil))) pe_non)))) pss_nil)
  (pss_cons (ps_if (pt_cmpR (w_eqD K hr.units) (pe_ix (w_ix K) (pv 2) pe_int (fun _ _ => rfl)) pe_str (nomark _)) (pss_one (ps_for PassesOwn.never rfl (pi_tup (pe_slice (w_slT K) (pv 2) (po_some pe_int) po_none)) (pg_name (i := 4) sc_Free_reason_for.nd rfl (by first | exact Or.inl rfl | exact Or.inr rfl)) (pss_one (ps_if (pt_val (pe_meth (pv 0) CF.cl M_is_below.me G_is_below (hr.mono (by omega)) M_is_below.b .nil pass0 (pa_cons (pv 1) (pa_cons (pv 4) pa_nil)))) (pss_one (ps_ret (pe_tup (pa_cons pe_str (pa_cons (pe_lst (pa_cons (pe_tup (pa_cons (pv 1) (pa_cons (pv 4) pa_nil))) (pa_cons (pe_tup (pa_cons (pv 4) (pa_cons (pv 2) pa_nil))) pa_nil))) pa_nil))))) pss_nil)))) pss_nil)
  (pss_cons (ps_if (pt_cmpR (w_eqD K hr.units) (pe_ix (w_ix K) (pv 1) pe_int (fun _ _ => rfl)) pe_str (nomark _)) (pss_one (ps_for PassesOwn.never rfl (pi_tup (pe_slice (w_slT K) (pv 1) (po_some pe_int) po_none)) (pg_name (i := 4) sc_Free_reason_for.nd rfl (by first | exact Or.inl rfl | exact Or.inr rfl)) (pss_one (ps_if (pt_val (pe_meth (pv 0) CF.cl M_is_below.me G_is_below (hr.mono (by omega)) M_is_below.b .nil pass0 (pa_cons (pv 4) (pa_cons (pv 2) pa_nil)))) (pss_one (ps_ret (pe_tup (pa_cons pe_str (pa_cons (pe_lst (pa_cons (pe_tup (pa_cons (pv 1) (pa_cons (pv 4) pa_nil))) (pa_cons (pe_tup (pa_cons (pv 4) (pa_cons (pv 2) pa_nil))) pa_nil))) pa_nil))))) pss_nil)))) pss_nil)
  (pss_one (ps_ret pe_non))))))), ?_⟩
      obtain ⟨y, l, r⟩ := y
      have tl := hx.tl.1
      have tr := hx.tr.1
      dsimp only at hx tl tr ⊢
      have nome : ∀ (g : (WM y.x).G) H, (WM y.x).I g H → ∃ dx fs, H y.sa = some (.ins C dx fs) ∧ fs.lookup ("is_below" : Str) = none := fun g H i => ⟨_, _, self_at i, flF_no (by decide +kernel) (by decide +kernel) (by decide +kernel)⟩
      refine x_seq (x_ifD (b := PyData.eqv l r) (tv_test (ev_eqd (ev_var rfl) (ev_var rfl) (isT_fit tl) (isT_fit tr) (by decide) (by decide) rfl)) (fun q => x_ret (EvS.to (ev_tup (ds := [.str "same", .list []]) (av_two ev_str (ev_lst (ds := []) av_nil))) ?_)) fun q0 => x_next ?_)
      · show Sl.dat _ = Sl.dat (rsnD l r)
        unfold rsnD rsn
        rw [if_pos q]
      refine x_seq (x_ifD (tv_op tl opB (ev_var rfl)) (fun q => ?_) fun q1 => x_next ?_)
      · have en := opIs_node q
        refine x_seq (x_asg (EvS.to (ev_lcTm (fun p => pairD p r) (ev_tail (ev_var (by rw [← en]; rfl))) fun p hp => ⟨nol_pair (hx.left hp).tl.1 tr, cg_name (by simp) ⟨rfl, ev_tup (ds := [p, r]) (av_two (ev_var rfl) (ev_var rfl))⟩⟩) ?_))
        refine x_ret (ev_ifS (P1 := fun b _ => b = (partsD l).all fun p => Z.B p r) (tv_BS (EvS.imp (P := fun s _ => s = .dat (.bool ((partsD l).all fun p => Z.B p r))) (ev_cbS (ev_lcLs (fun d => .bool (pB d)) (ev_var rfl) fun d hd => ⟨rfl, fun g' => ?_⟩) fun s g1 es => ?_) fun s g1 e => ⟨_, e, rfl⟩)) (fun g1 h => ?_) fun g1 h => ?_)
        · obtain ⟨p, hp, rfl⟩ := List.mem_map.mp hd
          refine cg_pair (by simp) (by simp) (ev_meth (ev_var rfl) (nome _) (av_two (ev_var rfl) (ev_var rfl)) (rc_free (hx.left hp) fun g' => rfl))
        · subst es
          rw [bools]
          exact RcS.imp rc_all fun s g2 ⟨e, _⟩ => by rw [e, all_id, List.all_map]; rfl
        · refine EvS.to (ev_tup (ds := [.str "out", .list ((partsD l).map fun p => pairD p r)]) (av_two ev_str (ev_var rfl))) ?_
          show Sl.dat _ = Sl.dat (rsnD l r)
          unfold rsnD rsn
          rw [if_neg (by rw [q0]; decide), if_pos q, if_pos h.symm]
        · refine EvS.to ev_non ?_
          show Sl.dat _ = Sl.dat (rsnD l r)
          unfold rsnD rsn
          rw [if_neg (by rw [q0]; decide), if_pos q, if_neg (by rw [← h]; decide)]
      refine x_seq (x_ifD (tv_op tr opA (ev_var rfl)) (fun q => ?_) fun q2 => x_next ?_)
      · have en := opIs_node q
        refine x_seq (x_asg (EvS.to (ev_lcTm (fun p => pairD l p) (ev_tail (ev_var (by rw [← en]; rfl))) fun p hp => ⟨nol_pair tl (hx.right hp).tr.1, cg_name (by simp) ⟨rfl, ev_tup (ds := [l, p]) (av_two (ev_var rfl) (ev_var rfl))⟩⟩) ?_))
        refine x_ret (ev_ifS (P1 := fun b _ => b = (partsD r).all fun p => Z.B l p) (tv_BS (EvS.imp (P := fun s _ => s = .dat (.bool ((partsD r).all fun p => Z.B l p))) (ev_cbS (ev_lcLs (fun d => .bool (pB d)) (ev_var rfl) fun d hd => ⟨rfl, fun g' => ?_⟩) fun s g1 es => ?_) fun s g1 e => ⟨_, e, rfl⟩)) (fun g1 h => ?_) fun g1 h => ?_)
        · obtain ⟨p, hp, rfl⟩ := List.mem_map.mp hd
          refine cg_pair (by simp) (by simp) (ev_meth (ev_var rfl) (nome _) (av_two (ev_var rfl) (ev_var rfl)) (rc_free (hx.right hp) fun g' => rfl))
        · subst es
          rw [bools]
          exact RcS.imp rc_all fun s g2 ⟨e, _⟩ => by rw [e, all_id, List.all_map]; rfl
        · refine EvS.to (ev_tup (ds := [.str "into", .list ((partsD r).map fun p => pairD l p)]) (av_two ev_str (ev_var rfl))) ?_
          show Sl.dat _ = Sl.dat (rsnD l r)
          unfold rsnD rsn
          rw [if_neg (by rw [q0]; decide), if_neg (by rw [q1]; decide), if_pos q, if_pos h.symm]
        · refine EvS.to ev_non ?_
          show Sl.dat _ = Sl.dat (rsnD l r)
          unfold rsnD rsn
          rw [if_neg (by rw [q0]; decide), if_neg (by rw [q1]; decide), if_pos q, if_neg (by rw [← h]; decide)]
      -- the two searches
      have hN : ∀ {o : Option PyData}, (if opIs BAR r = true then (partsD r).find? (fun p => Z.B l p) else none) = o → rsn l r = (match o with
          | some p => some (.right p)
          | none => (match (if opIs AMP l = true then (partsD l).find? (fun p => Z.B p r) else none) with
            | some p => some (.left p)
            | none => none)) := fun {o} h => by
        subst h
        unfold rsn
        rw [if_neg (by rw [q0]; decide), if_neg (by rw [q1]; decide), if_neg (by rw [q2]; decide)]
        all_goals rfl
      refine x_seqM (fun δ' _ => (∃ z, δ' = [.val (.ref y.sa), .dat l, .dat r, .no, z, .no, .no]) ∧ (if opIs BAR r = true then (partsD r).find? (fun p => Z.B l p) else none) = none) (x_ifD (tv_op tr opB (ev_var rfl)) (fun q => ?_) fun q => x_next ⟨⟨.no, rfl⟩, if_neg (by rw [q]; decide)⟩) fun δ' g' h => ?_
      · have en := opIs_node q
        refine x_forT (ds := partsD r) (ev_tail (ev_var (by rw [← en]; rfl))) (fun i δ' _ => (∃ z, δ' = [.val (.ref y.sa), .dat l, .dat r, .no, z, .no, .no]) ∧ ∀ p ∈ (partsD r).take i, Z.B l p = false) ⟨⟨.no, rfl⟩, fun p hp => by cases hp⟩ (fun i p δ' g' hi hJ => ?_) fun δ' g' hJ => ⟨hJ.1, ?_⟩
        · obtain ⟨⟨z, rfl⟩, hJ⟩ := hJ
          have hpm := List.mem_of_getElem? hi
          refine gs_name (x_if (TvS.imp (P := fun b _ => b = Z.B l p) (tv_BS (EvS.imp (P := fun s _ => s = .dat (.bool (Z.B l p))) (ev_meth (ev_var rfl) (nome _) (av_two (ev_var rfl) (ev_var rfl)) (rc_free (hx.right hpm) fun g' => rfl)) fun s g1 e => ⟨_, e, rfl⟩)) fun b g1 e => ⟨fun hb => ?_, fun hb => x_next ⟨⟨_, rfl⟩, fun q hq => ?_⟩⟩))
          · refine x_ret (EvS.to (ev_tup (ds := [.str "right", .list [pairD l p, pairD p r]]) (av_two ev_str (ev_lst (ds := [pairD l p, pairD p r]) (av_two (ev_tup (ds := [l, p]) (av_two (ev_var rfl) (ev_var rfl))) (ev_tup (ds := [p, r]) (av_two (ev_var rfl) (ev_var rfl))))))) ?_)
            show Sl.dat _ = Sl.dat (rsnD l r)
            unfold rsnD
            rw [hN (o := some p) (by rw [if_pos q]; exact find_at hJ hi (by rw [← e, hb]))]
          · rw [List.take_add_one, hi] at hq
            rcases List.mem_append.mp hq with hq | hq
            · exact hJ q hq
            · have : q = p := by simpa using hq
              rw [this, ← e, hb]
        · rw [if_pos q]
          exact find_none fun p hp => hJ.2 p (by rw [List.take_length]; exact hp)
      obtain ⟨⟨z, rfl⟩, n1⟩ := h
      refine x_seqM (fun δ' _ => (if opIs AMP l = true then (partsD l).find? (fun p => Z.B p r) else none) = none) (x_ifD (tv_op tl opA (ev_var rfl)) (fun q => ?_) fun q => x_next (if_neg (by rw [q]; decide))) fun δ' g' h => ?_
      · have en := opIs_node q
        refine x_forT (ds := partsD l) (ev_tail (ev_var (by rw [← en]; rfl))) (fun i δ' _ => (∃ z, δ' = [.val (.ref y.sa), .dat l, .dat r, .no, z, .no, .no]) ∧ ∀ p ∈ (partsD l).take i, Z.B p r = false) ⟨⟨z, rfl⟩, fun p hp => by cases hp⟩ (fun i p δ' g' hi hJ => ?_) fun δ' g' hJ => ?_
        · obtain ⟨⟨z, rfl⟩, hJ⟩ := hJ
          have hpm := List.mem_of_getElem? hi
          refine gs_name (x_if (TvS.imp (P := fun b _ => b = Z.B p r) (tv_BS (EvS.imp (P := fun s _ => s = .dat (.bool (Z.B p r))) (ev_meth (ev_var rfl) (nome _) (av_two (ev_var rfl) (ev_var rfl)) (rc_free (hx.left hpm) fun g' => rfl)) fun s g1 e => ⟨_, e, rfl⟩)) fun b g1 e => ⟨fun hb => ?_, fun hb => x_next ⟨⟨_, rfl⟩, fun q hq => ?_⟩⟩))
          · refine x_ret (EvS.to (ev_tup (ds := [.str "left", .list [pairD l p, pairD p r]]) (av_two ev_str (ev_lst (ds := [pairD l p, pairD p r]) (av_two (ev_tup (ds := [l, p]) (av_two (ev_var rfl) (ev_var rfl))) (ev_tup (ds := [p, r]) (av_two (ev_var rfl) (ev_var rfl))))))) ?_)
            show Sl.dat _ = Sl.dat (rsnD l r)
            have hf : (if opIs AMP l = true then (partsD l).find? (fun p => Z.B p r) else none) = some p := by rw [if_pos q]; exact find_at hJ hi (by rw [← e, hb])
            unfold rsnD
            rw [hN n1, hf]
          · rw [List.take_add_one, hi] at hq
            rcases List.mem_append.mp hq with hq | hq
            · exact hJ q hq
            · have : q = p := by simpa using hq
              rw [this, ← e, hb]
        · rw [if_pos q]
          exact find_none fun p hp => hJ.2 p (by rw [List.take_length]; exact hp)
      · refine x_ret (EvS.to ev_non ?_)
        show Sl.dat _ = Sl.dat (rsnD l r)
        unfold rsnD
        rw [hN n1, h]
    refine ⟨?_, G_reason_for⟩
    refine fn_okG (α := FI C × PyData × PyData) M_is_below.fn sc_Free_is_below (fun _ => rfl) fun cdv A outer s H E hr y hx => ⟨_, (pss_cons (ps_set (i := 3) sc_Free_is_below.nd rfl (by first | exact Or.inl rfl | exact Or.inr rfl) (pe_joined (.cons (pe_fmt (pe_call G_text_of (hr.mono (by omega)) rfl D_text_of.g D_text_of.fn.kp D_text_of.b .nil pass0 (pa_cons (pv 1) pa_nil))) (.cons pe_str (.cons (pe_fmt (pe_call G_text_of (hr.mono (by omega)) rfl D_text_of.g D_text_of.fn.kp D_text_of.b .nil pass0 (pa_cons (pv 2) pa_nil))) .nil)))))
  (pss_cons (ps_if (pt_cmp (pc_dnotin (hu_of hr) (pv 3) (pe_fld (pv 0) rfl)) (by rfl)) (pss_one (ps_dput (hu_of hr) (pe_fld (pv 0) rfl) (pv 3) (pe_cmp (pc_notN (pe_meth (pv 0) CF.cl M_reason_for.me G_reason_for (hr.mono (by omega)) M_reason_for.b .nil pass0 (pa_cons (pv 1) (pa_cons (pv 2) pa_nil)))) rfl) rfl)) pss_nil)
  (pss_one (ps_ret (pe_dget (hu_of hr) (pe_fld (pv 0) rfl) (pv 3) (fun _ _ => rfl)))))), ?_⟩
    obtain ⟨y, l, r⟩ := y
    have tl := hx.tl
    have tr := hx.tr
    have hll := (tx_len tl.1).1
    have hlr := (tx_len tr.1).1
    dsimp only at hx tl tr hll hlr ⊢
    have nome : ∀ (g : (WM y.x).G) H, (WM y.x).I g H → ∃ dx fs, H y.sa = some (.ins C dx fs) ∧ fs.lookup ("reason_for" : Str) = none := fun g H i => ⟨_, _, self_at i, flF_no (by decide +kernel) (by decide +kernel) (by decide +kernel)⟩
    have kn : ∀ {g : (WM y.x).G} {δ : List Sl}, δ[0]? = some (.val (.ref y.sa)) → EvV K (WM y.x) (tFld K (tVar 0) "known") δ g (.ref y.x.kd) := fun {g δ} h => ev_fld (ev_var h) fun H i => ⟨C, _, _, self_at i, CF.cl, CF.known, flF_known⟩
    have l1 : (tx l).length ≤ 80000 := by rw [← cl_len]; omega
    have l2 : (tx r).length ≤ 80000 := by rw [← cl_len]; omega
    have ek : keyOf l r = Str.empty ++ tx l ++ LES ++ tx r := by rw [emp_app]; rfl
    have l0 : (Str.empty ++ tx l).length ≤ 80000 := by rw [emp_app]; exact l1
    have l3 : (Str.empty ++ tx l ++ LES).length ≤ 80003 := by rw [app_len, les_len]; omega
    have l4 : (Str.empty ++ tx l ++ LES ++ tx r).length ≤ 160003 := by rw [app_len]; omega
    refine x_seq (x_asg (EvS.to (s := .dat (.str (keyOf l r))) (EvS.asD (ev_js (.cons (ev_fmt (ev_callD (av_one (ev_var rfl)) (rc_spP l rfl tl fun s e => ⟨e, rfl⟩)) (Nat.le_trans l1 (by decide))) (Nat.le_trans l0 (by decide)) (.cons ev_str (Nat.le_trans l3 (by decide)) (.cons (ev_fmt (ev_callD (av_one (ev_var rfl)) (rc_spP r rfl tr fun s e => ⟨e, rfl⟩)) (Nat.le_trans l2 (by decide))) (Nat.le_trans l4 (by decide)) .nil)))) (by rw [ek])) ?_))
    refine x_seq (x_if (TvS.imp (tv_memo hx.inp (ev_var rfl) (kn rfl)) fun b g' h => ⟨fun hb => x_memo hx.inp (EvS.imp (P := fun s _ => s = .dat (.bool (Z.B l r))) (ev_notNS (ev_meth (ev_var rfl) (nome _) (av_two (ev_var rfl) (ev_var rfl)) (rc_free hx fun g' => rfl)) fun g1 => ?_) fun s g1 e => ⟨e, ?_⟩) (fun g1 => kn rfl) fun g1 => ev_var rfl, fun hb => x_next ?_⟩))
    · rw [← rsn_some hx]
    · exact x_ret (EvS.to (ev_memo hx.inp (List.mem_cons_self (a := keyOf l r) (l := g1)) (kn rfl) (ev_var rfl)) rfl)
    · rcases h with ⟨e, _⟩ | ⟨_, e⟩
      · rw [e] at hb; cases hb
      · subst e
        exact x_ret (EvS.to (ev_memo hx.inp (List.mem_cons_self ..) (kn rfl) (ev_var rfl)) rfl)
end
end Z
/-! zip of a tuple and a list -/
namespace Z
open PySem PySem.Spec PyProof.Rows L2
/-- what a zip over a tuple (by i1) and a list (by i2) keeps, at turn k -/
structure ZTL (h : Heap) (z TI TO i1 i2 l1 l2 : Addr) (k : Nat) : Prop where
  zp : IsZip h z TI TO .none
  ti : IsPair h TI (.ref i1) (.ref i2)
  to : ∃ a b, IsPair h TO a b
  it : h.IsTupleIter i1 l1 k
  il : h.IsListIter i2 l2 k
section
variable {prog : Program} {w : World} {A : Around} {E : Value → Shared → Prop} {s : Shared} {z TI TO i1 i2 l1 l2 : Addr} {k : Nat} {xs ys : Array Value} {x y : Value}
theorem ztl_item0 {Q : Value → Shared → Prop} (D : ZipApart z TI TO i1 i2 l1 l2) (t : ZTL s.heap z TI TO i1 i2 l1 l2 k) (hl1 : s.heap.IsTuple l1 xs) (hl2 : s.heap.IsList l2 ys) (hx : xs[k]? = some x) (hy : ys[k]? = some y)
    (hQ : ∀ h', IsZip h' z TI TO (rawInt s.heap.objs.size) → IsPair h' TO x y → h'.IsTupleIter i1 l1 (k + 1) → h'.IsListIter i2 l2 (k + 1) → IsPair h' s.heap.objs.size x y →
      (∀ c o, c ∉ [z, TO, i1, i2] → s.heap.get? c = some o → h'.get? c = some o) → Q (.ref s.heap.objs.size) { s with heap := h' }) :
    wpAny (model prog w) A (Builtin.«zip.__next__» ⟨[.ref z], []⟩) (fun fin s' => ∃ v, fin = .done (.ret v) ∧ Q v s') E s := by
  obtain ⟨zp, ti, ⟨a, b, to⟩, it, il⟩ := t
  show wpAny _ _ (field (.ref z) 2 >>= _) _ _ _
  refine wpAny_bind (wpAny_field zp rfl (x := .bool false) rfl ?_)
  show wpAny _ _ (field (.ref z) 3 >>= _) _ _ _
  refine wpAny_bind (wpAny_field zp rfl (x := .ref TI) rfl (wpAny_bind (wpAny_seqItems ti rfl ?_)))
  show wpAny _ _ (Builtin.SmallTypes.ownedTupleIsFree (.ref z) >>= _) _ _ _
  refine wpAny_bind ?_
  unfold Builtin.SmallTypes.ownedTupleIsFree
  refine wpAny_bind (wpAny_field zp rfl (x := .none) rfl (wpAny_pure ?_))
  simp only [if_true]
  refine wpAny_bind (wpAny_rule (wpAny_bind (wpAny_field zp rfl (x := .ref TO) rfl (wpAny_bind (wpAny_setField_rec zp (by simp) fun ha za sa => ?_)))))
  replace za : IsZip ha z TI TO .ellipsis := za
  refine wpAny_bind ?_
  simp only [List.zipIdx_cons, List.zipIdx_nil, List.forIn_cons, List.forIn_nil]
  refine wpAny_bind (wpAny_bind (wpAny_onRaise ?_))
  show wpAny _ _ (Builtin.SmallTypes.nextOf (.ref i1) >>= _) _ _ _
  refine wpAny_bind (RZ.nextOf_tuple_item (it.extBut sa.extBut D.i1z) (hl1.extBut sa.extBut D.l1z) hx fun hb it' sb => wpAny_pure ?_)
  have tob : IsPair hb TO a b := sb.extBut _ _ D.TOi1 (sa.extBut _ _ D.TOz to)
  refine wpAny_bind (wpAny_seqItems tob rfl (wpAny_bind (wpAny_updateSeq_pair tob fun hc toc sc => ?_)))
  replace toc : IsPair hc TO x b := toc
  refine wpAny_bind (wpAny_letGo (wpAny_pure (wpAny_bind (wpAny_bind (wpAny_onRaise ?_)))))
  show wpAny _ _ (Builtin.SmallTypes.nextOf (.ref i2) >>= _) _ _ _
  refine wpAny_bind (wpAny_nextOf_list_item (((il.extBut sa.extBut D.i2z).extBut sb.extBut D.i12.symm).extBut sc.extBut D.TOi2.symm) (((hl2.extBut sa.extBut D.l2z).extBut sb.extBut D.l2i1).extBut sc.extBut D.l2TO) hy fun hd il' sd => wpAny_pure ?_)
  have tod : IsPair hd TO x b := sd.extBut _ _ D.TOi2 toc
  refine wpAny_bind (wpAny_seqItems tod rfl (wpAny_bind (wpAny_updateSeq_pair tod fun he toe se => ?_)))
  replace toe : IsPair he TO x y := toe
  refine wpAny_bind (wpAny_letGo (wpAny_pure (wpAny_pure (wpAny_bind (wpAny_seqItems toe rfl (wpAny_bind (wpAny_newTuple ?_)))))))
  have esz : he.objs.size = s.heap.objs.size := by rw [se.1, sd.1, sc.1, sb.1, sa.1]
  have ze : IsZip he z TI TO .ellipsis := se.extBut _ _ D.TOz.symm (sd.extBut _ _ D.i2z.symm (sc.extBut _ _ D.TOz.symm (sb.extBut _ _ D.i1z.symm za)))
  have ite := ((it'.extBut sc.extBut D.TOi1.symm).extBut sd.extBut D.i12).extBut se.extBut D.TOi1.symm
  have ile := il'.extBut se.extBut D.TOi2.symm
  have zlt : z < he.objs.size := Heap.lt_size ze
  show wpAny _ _ (Builtin.SmallTypes.ownedTupleHandOut (.ref z) (.ref he.objs.size) >>= _) _ _ _
  refine wpAny_bind ?_
  unfold Builtin.SmallTypes.ownedTupleHandOut
  have zf : IsZip (he.push { cls := .type "tuple", data := .seq #[x, y] }) z TI TO .ellipsis := Heap.get?_push_of_some _ ze
  refine wpAny_bind (wpAny_setField_rec zf (by simp) fun hf zg sf => ?_)
  replace zg : IsZip hf z TI TO (rawInt he.objs.size) := zg
  refine wpAny_setField_rec zg (by simp) fun hg zh sg => ?_
  replace zh : IsZip hg z TI TO (rawInt he.objs.size) := zh
  have up : ∀ c o, c ≠ z → he.get? c = some o → hg.get? c = some o := fun c o c1 e => sg.extBut _ _ c1 (sf.extBut _ _ c1 (Heap.get?_push_of_some _ e))
  have tg : IsPair hg he.objs.size x y := sg.extBut _ _ (Nat.ne_of_gt zlt) (sf.extBut _ _ (Nat.ne_of_gt zlt) (Heap.get?_push_size _ rfl))
  rw [esz] at zh tg
  refine wpAny_pure ⟨_, rfl, ?_⟩
  show Q (.ref he.objs.size) _
  rw [esz]
  refine hQ hg zh (up _ _ D.TOz toe) (ite.at fun o e => up _ o D.i1z e) (ile.at fun o e => up _ o D.i2z e) tg fun c o hc e => ?_
  simp only [List.mem_cons, List.not_mem_nil, or_false, not_or] at hc
  obtain ⟨c1, c2, c3, c4⟩ := hc
  exact up c o c1 (se.extBut _ _ c2 (sd.extBut _ _ c4 (sc.extBut _ _ c2 (sb.extBut _ _ c3 (sa.extBut _ _ c1 e)))))
theorem ztl_end0 {Q : Fin → Shared → Prop} (hh : A.handled = none) (D : ZipApart z TI TO i1 i2 l1 l2) (t : ZTL s.heap z TI TO i1 i2 l1 l2 k) (hl1 : s.heap.IsTuple l1 xs) (hl2 : s.heap.IsList l2 ys) (hx : xs[k]? = none)
    (hE : ∀ h' e, (∀ c o, c ∉ [z, TO, i1, i2] → s.heap.get? c = some o → h'.get? c = some o) → (∃ o, h'.get? e = some o ∧ o.cls = .type "StopIteration") → E (.ref e) { s with heap := h' }) :
    wpAny (model prog w) A (Builtin.«zip.__next__» ⟨[.ref z], []⟩) Q E s := by
  obtain ⟨zp, ti, ⟨a, b, to⟩, it, il⟩ := t
  show wpAny _ _ (field (.ref z) 2 >>= _) _ _ _
  refine wpAny_bind (wpAny_field zp rfl (x := .bool false) rfl ?_)
  show wpAny _ _ (field (.ref z) 3 >>= _) _ _ _
  refine wpAny_bind (wpAny_field zp rfl (x := .ref TI) rfl (wpAny_bind (wpAny_seqItems ti rfl ?_)))
  show wpAny _ _ (Builtin.SmallTypes.ownedTupleIsFree (.ref z) >>= _) _ _ _
  refine wpAny_bind ?_
  unfold Builtin.SmallTypes.ownedTupleIsFree
  refine wpAny_bind (wpAny_field zp rfl (x := .none) rfl (wpAny_pure ?_))
  simp only [if_true]
  refine wpAny_bind (wpAny_rule (wpAny_bind (wpAny_field zp rfl (x := .ref TO) rfl (wpAny_bind (wpAny_setField_rec zp (by simp) fun ha za sa => ?_)))))
  replace za : IsZip ha z TI TO .ellipsis := za
  refine wpAny_bind ?_
  simp only [List.zipIdx_cons, List.zipIdx_nil, List.forIn_cons, List.forIn_nil]
  refine wpAny_bind (wpAny_bind (wpAny_onRaise ?_))
  show wpAny _ _ (Builtin.SmallTypes.nextOf (.ref i1) >>= _) _ _ _
  refine wpAny_bind (RZ.nextOf_tuple_end hh (it.extBut sa.extBut D.i1z) (hl1.extBut sa.extBut D.l1z) hx fun hb e sb he => ?_)
  obtain ⟨oe, hoe, hce⟩ := he
  have zb : IsZip hb z TI TO .ellipsis := sb _ _ D.i1z.symm za
  have ez : e ≠ z := fun q => by
    subst q
    rw [zb] at hoe
    cases hoe
    simp at hce
  refine wpAny_setField_rec zb (by simp) fun hc _ sc => hE hc e (fun c o h q => ?_) ⟨oe, sc.extBut _ _ ez hoe, hce⟩
  simp only [List.mem_cons, List.not_mem_nil, or_false, not_or] at h
  obtain ⟨c1, c2, c3, c4⟩ := h
  exact sc.extBut _ _ c1 (sb _ _ c3 (sa.extBut _ _ c1 q))
theorem ztl_item {Q : Option Value → Shared → Prop} (D : ZipApart z TI TO i1 i2 l1 l2) (t : ZTL s.heap z TI TO i1 i2 l1 l2 k) (hl1 : s.heap.IsTuple l1 xs) (hl2 : s.heap.IsList l2 ys) (hx : xs[k]? = some x) (hy : ys[k]? = some y)
    (hQ : ∀ h', IsZip h' z TI TO (rawInt s.heap.objs.size) → IsPair h' TO x y → h'.IsTupleIter i1 l1 (k + 1) → h'.IsListIter i2 l2 (k + 1) → IsPair h' s.heap.objs.size x y →
      (∀ c o, c ∉ [z, TO, i1, i2] → s.heap.get? c = some o → h'.get? c = some o) → Q (some (.ref s.heap.objs.size)) { s with heap := h' }) : wpAny (model prog w) A (pyNext (.ref z)) Q E s := by
  have ty : s.TypeIs (.ref z) "zip" := ⟨_, t.zp, rfl⟩
  unfold pyNext
  exact wpAny_bind (wpAny_attempt (wpAny_callSpecial?_slot (name := Str.ofString "__next__") ty F.slot_zip_next (wpAny_call_entry F.slot_zip_next ty F.entry_zip_next
    (ztl_item0 D t hl1 hl2 hx hy fun h' a1 a2 a3 a4 a5 a6 => wpAny_pure (hQ h' a1 a2 a3 a4 a5 a6)) (F.args_zip_next_1 _))))
theorem ztl_end {Q : Option Value → Shared → Prop} (hh : A.handled = none) (D : ZipApart z TI TO i1 i2 l1 l2) (t : ZTL s.heap z TI TO i1 i2 l1 l2 k) (hl1 : s.heap.IsTuple l1 xs) (hl2 : s.heap.IsList l2 ys) (hx : xs[k]? = none)
    (hQ : ∀ h', (∀ c o, c ∉ [z, TO, i1, i2] → s.heap.get? c = some o → h'.get? c = some o) → Q none { s with heap := h' }) : wpAny (model prog w) A (pyNext (.ref z)) Q E s := by
  have ty : s.TypeIs (.ref z) "zip" := ⟨_, t.zp, rfl⟩
  unfold pyNext
  refine wpAny_bind (wpAny_attempt (wpAny_callSpecial?_slot (name := Str.ofString "__next__") ty F.slot_zip_next (wpAny_call_entry F.slot_zip_next ty F.entry_zip_next
    (ztl_end0 hh D t hl1 hl2 hx fun h' e hk he => ?_) (F.args_zip_next_1 _))))
  obtain ⟨o, ho, hc⟩ := he
  exact wpAny_bind (wpAny_isInstance (T := "StopIteration") (b := true) ⟨o, ho, hc⟩ isSubtype_stop (wpAny_pure (hQ _ hk)))
end
/-- the heaps of a new zip, in turn -/
abbrev ztl1 (h : Heap) (l1 : Addr) : Heap := h.push { cls := .type "tuple_iterator", data := .fields #[.ref l1, .int 0 0] }
abbrev ztl2 (h : Heap) (l1 l2 : Addr) : Heap := (ztl1 h l1).push { cls := .type "list_iterator", data := .fields #[.ref l2, .int 0 0] }
abbrev ztl3 (h : Heap) (l1 l2 : Addr) : Heap := (ztl2 h l1 l2).push { cls := .type "tuple", data := .seq #[.ref h.objs.size, .ref (ztl1 h l1).objs.size] }
abbrev ztl4 (h : Heap) (l1 l2 : Addr) : Heap := (ztl3 h l1 l2).push { cls := .type "tuple", data := .seq #[.none, .none] }
abbrev ztl5 (h : Heap) (l1 l2 : Addr) : Heap := (ztl4 h l1 l2).push { cls := .type "zip", data := .fields #[.none, .bool false, .bool false, .ref (ztl2 h l1 l2).objs.size, .ref (ztl3 h l1 l2).objs.size] }
theorem meets_ztl (l1 l2 : Addr) (xs ys : Array Value) :
    Meets (Builtin.«zip.__new__» ⟨[.type "zip", .ref l1, .ref l2], []⟩) (fun _ R s => s.heap.IsTuple l1 xs ∧ s.heap.IsList l2 ys ∧
      R (.ok (.ret (.ref (ztl4 s.heap l1 l2).objs.size))) { s with heap := ztl5 s.heap l1 l2 }) :=
  .of_wp fun prog w A R s h => by
    obtain ⟨hp, g, d, tk, os⟩ := s; obtain ⟨hl1, hl2, h⟩ := h
    have hsub := sub_zip
    have t1 : Heap.IsTuple (Shared.heap ⟨hp, g, d, tk, os⟩) l1 xs := hl1
    have t2 : Heap.IsList (Shared.heap ⟨hp.push { cls := .type "tuple_iterator", data := .fields #[.ref l1, .int 0 0] }, g, d, tk, os⟩) l2 ys := Heap.IsList.push hl2 _
    wp_walk using wpAny_pyIter_tuple t1, wpAny_pyIter_list t2
    exact ⟨_, rfl, h⟩
section
variable {prog : Program} {w : World} {A : Around} {E : Value → Shared → Prop} {s : Shared}
theorem call_ztl {l1 l2 : Addr} {xs ys : Array Value} {Q : Value → Shared → Prop} (hl1 : s.heap.IsTuple l1 xs) (hl2 : s.heap.IsList l2 ys)
    (h : ∀ h', ZTL h' (s.heap.objs.size + 4) (s.heap.objs.size + 2) (s.heap.objs.size + 3) s.heap.objs.size (s.heap.objs.size + 1) l1 l2 0 → (∀ c o, s.heap.get? c = some o → h'.get? c = some o) → Q (.ref (s.heap.objs.size + 4)) { s with heap := h' }) :
    wpAny (model prog w) A (call (.type "zip") [.ref l1, .ref l2]) Q E s := by
  refine callType_new F.called_zip (by decide) (F.typeCall_zip_2 _ _) (F.newCall_zip_2 _ _) (fun obj => F.args_object_init_3 obj _ _) F.entry_zip_new (meets_ztl l1 l2 xs ys) ⟨hl1, hl2, ?_⟩
  have s1 : (ztl1 s.heap l1).objs.size = s.heap.objs.size + 1 := Heap.size_push ..
  have s2 : (ztl2 s.heap l1 l2).objs.size = s.heap.objs.size + 2 := (Heap.size_push ..).trans (congrArg (· + 1) s1)
  have s3 : (ztl3 s.heap l1 l2).objs.size = s.heap.objs.size + 3 := (Heap.size_push ..).trans (congrArg (· + 1) s2)
  have s4 : (ztl4 s.heap l1 l2).objs.size = s.heap.objs.size + 4 := (Heap.size_push ..).trans (congrArg (· + 1) s3)
  have g1 : (ztl5 s.heap l1 l2).get? s.heap.objs.size = some _ := Heap.get?_push_of_some _ (Heap.get?_push_of_some _ (Heap.get?_push_of_some _ (Heap.get?_push_of_some _ (Heap.get?_push_size _ rfl))))
  have g2 : (ztl5 s.heap l1 l2).get? (ztl1 s.heap l1).objs.size = some _ := Heap.get?_push_of_some _ (Heap.get?_push_of_some _ (Heap.get?_push_of_some _ (Heap.get?_push_size _ rfl)))
  have g3 : (ztl5 s.heap l1 l2).get? (ztl2 s.heap l1 l2).objs.size = some _ := Heap.get?_push_of_some _ (Heap.get?_push_of_some _ (Heap.get?_push_size _ rfl))
  have g4 : (ztl5 s.heap l1 l2).get? (ztl3 s.heap l1 l2).objs.size = some _ := Heap.get?_push_of_some _ (Heap.get?_push_size _ rfl)
  have g5 : (ztl5 s.heap l1 l2).get? (ztl4 s.heap l1 l2).objs.size = some _ := Heap.get?_push_size _ rfl
  show _ ∧ _
  rw [s1] at g2 g3
  rw [s2] at g3
  rw [s3] at g4
  rw [s2, s3, s4] at g5
  rw [s4]
  exact ⟨⟨_, g5, rfl⟩, h _ ⟨g5, g3, ⟨_, _, g4⟩, ⟨_, g1, rfl, rfl⟩, ⟨_, g2, rfl, rfl⟩⟩ fun c o q =>
    Heap.get?_push_of_some _ (Heap.get?_push_of_some _ (Heap.get?_push_of_some _ (Heap.get?_push_of_some _ (Heap.get?_push_of_some _ q))))⟩
end
/-- the tuple at a, the list at b, item by item in new pairs -/
def ItZ (K : PySem.W.Frag) (a b : Addr) : It :=
  ⟨fun i H => ∃ (xs ys : List V) (x y : V), SqT K H a xs ∧ SqL K H b ys ∧ xs[i]? = some x ∧ ys[i]? = some y,
    fun i H v H' => ∃ T x y, v = .ref T ∧ H T = none ∧ H' = upd H T (.tup [x, y]) ∧ (∀ xs, SqT K H a xs → xs[i]? = some x) ∧ ∀ ys, SqL K H b ys → ys[i]? = some y,
    fun i H => ∃ xs ys : List V, SqT K H a xs ∧ SqL K H b ys ∧ xs.length ≤ i⟩
theorem turn_ztl {P : Program} {w : World} {K : PySem.W.Frag} {elts : List Expr} {kk : Nat} {tpos : Pos} {a b z TI TO i1 i2 : Addr} (D : ZipApart z TI TO i1 i2 a b) :
    Turn P w K (.Tuple elts kk tpos) (ItZ K a b) [z, TI, TO, i1, i2] z (fun i h => ZTL h z TI TO i1 i2 a b i) where
  mem := by simp
  obj := fun i h st c hc => by
    obtain ⟨hz, hTI, ⟨x, y, hTO⟩, ⟨o1, e1, _, d1⟩, ⟨o2, e2, _, d2⟩⟩ := st
    simp only [List.mem_cons, List.not_mem_nil, or_false] at hc
    rcases hc with rfl | rfl | rfl | rfl | rfl
    · exact ⟨_, hz, fun v q => nomatch q⟩
    · exact ⟨_, hTI, fun v q => nomatch q⟩
    · exact ⟨_, hTO, fun v q => nomatch q⟩
    · exact ⟨o1, e1, fun v q => by rw [d1] at q; cases q⟩
    · exact ⟨o2, e2, fun v q => by rw [d2] at q; cases q⟩
  keep := fun i h h' st k => by
    obtain ⟨hz, hTI, ⟨x, y, hTO⟩, h1, h2⟩ := st
    exact ⟨k z (by simp) _ hz, k TI (by simp) _ hTI, ⟨x, y, k TO (by simp) _ hTO⟩, h1.at fun o q => k i1 (by simp) o q, h2.at fun o q => k i2 (by simp) o q⟩
  item := by
    intro X hP hw hK hc i pins s σ H E I hf st hg
    subst hP hw hK
    obtain ⟨xs, ys, x, y, qx, qy, hx, hy⟩ := hg
    obtain ⟨its, rv, p, _⟩ := I.tuple qx
    obtain ⟨its2, rv2, p2, _⟩ := I.list qy
    obtain ⟨u, hu, ru⟩ := rv.get hx
    obtain ⟨u2, hu2, ru2⟩ := rv2.get hy
    have zl : z < s.heap.objs.size := Heap.lt_size st.zp
    refine ztl_item D st p p2.isList (x := u) (y := u2) (by simpa using hu) (by simpa using hu2) fun h' z' o' t' l' hT hk => ?_
    refine ⟨_, rfl, wpAny_letOwnedTupleGo_zip (s := { s with heap := h' }) z' fun h'' z'' sb => ?_⟩
    have hT2 : h''.get? s.heap.objs.size = some { cls := .type "tuple", data := .seq #[u, u2] } := (sb.2 _ (Nat.ne_of_gt zl)).trans hT
    have new : ObjOk X.prog X.w (upd H s.heap.objs.size (.tup [x, y])) h'' s.heap.objs.size (.tup [x, y]) :=
      ⟨by show 2 ≤ sizeLine; decide, [u, u2], .cons ru (.cons ru2 .nil), ⟨_, hT2, rfl, _, rfl⟩⟩
    have I1 : Inv X pins σ (upd H s.heap.objs.size (.tup [x, y])) { s with heap := h'' } :=
      I.turnedNew (t' := s.toks) (ch := [z, TI, TO, i1, i2]) (fun c o hb q => (sb.2 c (fun q' => hb (by simp [q']))).trans (hk c o (fun q' => hb (by
        simp only [List.mem_cons, List.not_mem_nil, or_false] at q' ⊢
        rcases q' with q' | q' | q' | q' <;> simp [q'])) q)) hf (Nat.le_refl _) new
    refine ⟨.ref s.heap.objs.size, _, I1, rfl, ⟨_, x, y, rfl, I.hok.fresh (Nat.le_refl _), rfl, fun l hl => by rw [I.tuple_inj hl qx]; exact hx, fun l hl => by rw [I.list_inj hl qy]; exact hy⟩, ⟨z'', ?_, ⟨u, u2, (sb.2 _ D.TOz).trans o'⟩, ?_, ?_⟩, fun c hcm => ?_⟩
    · refine (sb.2 _ D.TIz).trans (hk _ _ ?_ st.ti)
      simp only [List.mem_cons, List.not_mem_nil, or_false, not_or]
      exact ⟨D.TIz, D.TITO, D.TIi1, D.TIi2⟩
    · exact t'.at fun o q => (sb.2 _ D.i1z).trans q
    · exact l'.at fun o q => (sb.2 _ D.i2z).trans q
    · have lt : c < s.heap.objs.size := by
        obtain ⟨_, e1, _⟩ := st.it
        obtain ⟨_, e2, _⟩ := st.il
        obtain ⟨_, _, e3⟩ := st.to
        simp only [List.mem_cons, List.not_mem_nil, or_false] at hcm
        rcases hcm with rfl | rfl | rfl | rfl | rfl
        · exact zl
        · exact Heap.lt_size st.ti
        · exact Heap.lt_size e3
        · exact Heap.lt_size e1
        · exact Heap.lt_size e2
      rw [upd_ne (Nat.ne_of_lt lt)]
      exact (hf c hcm).1
  done := by
    intro X hP hw hK hc i pins s σ H E I hf st hg
    subst hP hw hK
    obtain ⟨xs, ys, qx, qy, hend⟩ := hg
    obtain ⟨its, rv, p, _⟩ := I.tuple qx
    obtain ⟨its2, rv2, p2, _⟩ := I.list qy
    have l1 := rv.length
    exact ztl_end (I.ok.hd hc) D st p p2.isList (by simp; omega) fun h' hk => ⟨rfl, I.turnedL (t' := s.toks) (ch := [z, TI, TO, i1, i2]) (fun c o hb q => hk c o (fun q' => hb (by
      simp only [List.mem_cons, List.not_mem_nil, or_false] at q' ⊢
      rcases q' with q' | q' | q' | q' <;> simp [q'])) q) hf⟩
  self := fun A i s Q E st h => wpAny_pyIter_zip st.zp h
def iZTL (K : PySem.W.Frag) (ta : TA) : TI := fun σ H R => ta σ H fun vs H1 => ∃ a b xs ys, vs = [.ref a, .ref b] ∧ SqT K H1 a xs ∧ SqL K H1 b ys ∧ R (ItZ K a b) H1
theorem pi_ztl {X : Cx} {e e2 : Expr} {ta : TA} {p pos tpos : Pos} {elts : List Expr} {kk : Nat} (hg : Gl X "zip") (hm : X.mg "zip" = none) (ha : PA X [e, e2] ta)
    (hs : starEach [e, e2] X.env = (false, eval e X.env) :: starEach [e2] X.env := by rfl) (hpl : (backTo pos (starEach [e2] X.env)).any (·.1) = false := by rfl) :
    PI X (.Tuple elts kk tpos) (.Call (.Name "zip" p) [e, e2] [] pos) (iZTL X.K ta) := by
  refine ⟨fun pins s σ H R I h => ?_⟩
  refine Call_ (ld_blt I hg hm PyProof.Rows.boot_zip (PyProof.Rows.callWith_type1 (thn (ha.run pos pins s σ H _ I h) fun us s1 ⟨vs, H1, I1, r1, q1⟩ => ?_) hs hpl))
  obtain ⟨a, b, xs, ys, ex, qx, qy, q⟩ := q1
  subst ex
  cases r1 with
  | cons r rr =>
    cases rr with
    | cons r' rr =>
      cases rr
      cases r
      cases r'
      obtain ⟨its, rv, p1, _⟩ := I1.tuple qx
      obtain ⟨its2, rv2, p2, _⟩ := I1.list qy
      obtain ⟨o1, ho1, _⟩ := id p1
      refine call_ztl (show s1.heap.IsTuple a its.toArray from p1) p2.isList fun h' t hk => wpAny_pyIter_zip t.zp ?_
      have I2 : Inv X pins σ H1 { s1 with heap := h' } := I1.kept (t' := s1.toks) hk
      refine ⟨s1.heap.objs.size + 4, [s1.heap.objs.size + 4, s1.heap.objs.size + 2, s1.heap.objs.size + 3, s1.heap.objs.size, s1.heap.objs.size + 1], _, _, H1, rfl, I2, turn_ztl (PySem.W.ktu_apart s1.heap.objs.size a b (Heap.lt_size ho1) p2.lt), t, fun c hcm => ?_, q⟩
      have hle : s1.heap.objs.size ≤ c := by
        simp only [List.mem_cons, List.not_mem_nil, or_false] at hcm
        rcases hcm with rfl | rfl | rfl | rfl | rfl
        · exact Nat.le_add_right _ _
        · exact Nat.le_add_right _ _
        · exact Nat.le_add_right _ _
        · exact Nat.le_refl _
        · exact Nat.le_add_right _ _
      exact I1.fpOk hle (I1.hok.fresh hle)
theorem for_ztl {K : PySem.W.Frag} {a b : Addr} {xs ys : List V} {g : TG} {tb : TS} {D : Ends} {σ : L2.St} {H : Hp} (hl : xs.length = ys.length) (Pv : Nat → L2.St → Hp → Prop) (h0 : Pv 0 σ H) (hq : ∀ i σ H, Pv i σ H → SqT K H a xs ∧ SqL K H b ys)
    (hs : ∀ (i : Nat) (x y : V) (T : Addr) (σ : L2.St) (H : Hp), xs[i]? = some x → ys[i]? = some y → Pv i σ H → H T = none → g (.ref T) σ (upd H T (.tup [x, y])) fun σ2 H2 => tb { D with nx := Pv (i + 1), ct := Pv (i + 1), bk := D.nx } σ2 H2) (hd : ∀ σ H, Pv xs.length σ H → D.nx σ H) :
    ∃ W : Nat → Nat → L2.St → Hp → Prop, (∃ m, W 0 m σ H) ∧ ∀ i m σ H, W i m σ H →
      ((ItZ K a b).stop i H ∧ D.nx σ H) ∨ ((ItZ K a b).go i H ∧ ∃ N : L2.St → Hp → Prop, (∀ σ' H', N σ' H' → ∃ m', m' < m ∧ W (i + 1) m' σ' H') ∧ ∀ v H', (ItZ K a b).yld i H v H' → g v σ H' fun σ2 H2 => tb { D with nx := N, ct := N, bk := D.nx } σ2 H2) := by
  refine ⟨fun i m σ H => m = xs.length - i ∧ i ≤ xs.length ∧ Pv i σ H, ⟨xs.length, rfl, Nat.zero_le _, h0⟩, ?_⟩
  rintro i m σ H ⟨rfl, hi, p⟩
  obtain ⟨qx, qy⟩ := hq i σ H p
  by_cases hlt : i < xs.length
  · have hx : xs[i]? = some xs[i] := List.getElem?_eq_getElem hlt
    have hy : ys[i]? = some (ys[i]'(by omega)) := List.getElem?_eq_getElem _
    refine .inr ⟨⟨xs, ys, _, _, qx, qy, hx, hy⟩, Pv (i + 1), fun σ' H' p' => ⟨xs.length - (i + 1), by omega, rfl, hlt, p'⟩, fun v H' y => ?_⟩
    obtain ⟨T, x', y', rfl, hT, rfl, f1, f2⟩ := y
    exact hs i x' y' T σ H (f1 xs qx) (f2 ys qy) p hT
  · have e : i = xs.length := by omega
    subst e
    exact .inl ⟨⟨xs, ys, qx, qy, Nat.le_refl _⟩, hd σ H p⟩
end Z
/-! what a bridge finds: a mirror in plain Lean, and that it is right -/
namespace Z
open PySem L2
abbrev S2 := List St3 × List St3
structure Fo where
  t : PyData
  i : Nat
  j : Nat
def Fo.d (f : Fo) : PyData := .tuple [f.t, .int (f.i : Nat), .int (f.j : Nat)]
def mapS (f : PyData → S2 → Fo × S2) : List PyData → S2 → List Fo × S2
  | [], s => ([], s)
  | p :: ps, s => ((f p s).1 :: (mapS f ps (f p s).2).1, (mapS f ps (f p s).2).2)
theorem mapS_add (f : PyData → S2 → Fo × S2) (p : PyData) : ∀ (ps : List PyData) (s : S2), mapS f (ps ++ [p]) s = ((mapS f ps s).1 ++ [(f p (mapS f ps s).2).1], (f p (mapS f ps s).2).2)
  | [], s => rfl
  | q :: ps, s => by
    rw [List.cons_append, mapS, mapS_add f p ps, mapS]
    rfl
theorem mapS_len (f : PyData → S2 → Fo × S2) : ∀ (ps : List PyData) (s : S2), (mapS f ps s).1.length = ps.length
  | [], s => rfl
  | q :: ps, s => by rw [mapS, List.length_cons, List.length_cons, mapS_len f ps]
def stepO (t : PyData) (x : List St3 × List Nat) (y : PyData × Fo) : List St3 × List Nat := ((x.1 ++ [⟨y.2.t, t, wPart⟩]) ++ [⟨y.1, t, wChain y.2.i x.1.length⟩], x.2 ++ [x.1.length + 1])
def stepI (t : PyData) (x : List St3 × List Nat) (y : PyData × Fo) : List St3 × List Nat := ((x.1 ++ [⟨t, y.2.t, wPart⟩]) ++ [⟨t, y.1, wChain x.1.length y.2.j⟩], x.2 ++ [x.1.length + 1])
def overL (f : PyData → S2 → Fo × S2) (l r : PyData) (s : S2) : Fo × S2 :=
  let m := mapS f (partsD l) s
  let t := node BAR (m.1.map Fo.t)
  let k := ((partsD l).zip m.1).foldl (stepO t) (m.2.1, [])
  (⟨t, k.1.length, m.2.2.length⟩, (k.1 ++ [⟨l, t, wMany "out" k.2⟩], m.2.2 ++ [⟨t, r, wMany "out" (m.1.map Fo.j)⟩]))
def overR (f : PyData → S2 → Fo × S2) (l r : PyData) (s : S2) : Fo × S2 :=
  let m := mapS f (partsD r) s
  let t := node AMP (m.1.map Fo.t)
  let k := ((partsD r).zip m.1).foldl (stepI t) (m.2.2, [])
  (⟨t, m.2.1.length, k.1.length⟩, (m.2.1 ++ [⟨l, t, wMany "into" (m.1.map Fo.i)⟩], k.1 ++ [⟨t, r, wMany "into" k.2⟩]))
def thru (f : PyData → PyData → S2 → Fo × S2) (l r : PyData) (s : S2) : Fo × S2 :=
  match rsn l r with
  | some (.right p) => (⟨(f l p s).1.t, (f l p s).1.i, (f l p s).2.2.length + 1⟩, ((f l p s).2.1, ((f l p s).2.2 ++ [⟨p, r, wPart⟩]) ++ [⟨(f l p s).1.t, r, wChain (f l p s).1.j (f l p s).2.2.length⟩]))
  | some (.left p) => (⟨(f p r s).1.t, (f p r s).2.1.length + 1, (f p r s).1.j⟩, (((f p r s).2.1 ++ [⟨l, p, wPart⟩]) ++ [⟨l, (f p r s).1.t, wChain (f p r s).2.1.length (f p r s).1.i⟩], (f p r s).2.2))
  | _ => (⟨l, 0, 0⟩, s)
def fnd : Nat → PyData → PyData → S2 → Fo × S2
  | 0, l, _, s => (⟨l, 0, 0⟩, s)
  | n + 1, l, r, s =>
    if PyData.eqv l r = true then (⟨l, s.1.length, s.2.length⟩, (s.1 ++ [⟨l, l, wSame⟩], s.2 ++ [⟨l, l, wSame⟩]))
    else if opIs BAR l = true then overL (fun p => fnd n p r) l r s
    else if opIs AMP r = true then overR (fun p => fnd n l p) l r s
    else thru (fnd n) l r s
/-! ### it is right -/
structure Dv (S : List St3) : Prop where
  ok : ∀ n s, S[n]? = some s → Right S n s
  tt : ∀ s ∈ S, isT 9 s.l = true ∧ isT 9 s.r = true
theorem Dv.nil : Dv [] := ⟨fun n s h => (by cases h), fun s h => (by cases h)⟩
theorem get_pre {α : Type} {S X : List α} {i : Nat} {x : α} (h : S[i]? = some x) : (S ++ X)[i]? = some x := by
  rw [List.getElem?_append_left (List.getElem?_eq_some_iff.mp h).1]
  exact h
theorem Dv.add {S : List St3} {x : St3} (h : Dv S) (hx : Right S S.length x) (hl : isT 9 x.l = true) (hr : isT 9 x.r = true) : Dv (S ++ [x]) := by
  refine ⟨fun n s hs => ?_, fun s hs => ?_⟩
  · by_cases hn : n < S.length
    · rw [List.getElem?_append_left hn] at hs
      exact (h.ok n s hs).mono (fun i t q => get_pre q) (Nat.le_refl _)
    · have := (List.getElem?_eq_some_iff.mp hs).1
      rw [List.length_append, List.length_cons, List.length_nil] at this
      have e : n = S.length := by omega
      subst e
      rw [List.getElem?_append_right (Nat.le_refl _), Nat.sub_self] at hs
      cases hs
      exact hx.mono (fun i t q => get_pre q) (Nat.le_refl _)
  · rcases List.mem_append.mp hs with q | q
    · exact h.tt s q
    · rw [List.mem_singleton.mp q]
      exact ⟨hl, hr⟩
def Ext (S T : List St3) : Prop := ∃ X, T = S ++ X
theorem Ext.refl (S : List St3) : Ext S S := ⟨[], (List.append_nil S).symm⟩
theorem Ext.trans {S T U : List St3} : Ext S T → Ext T U → Ext S U := fun ⟨X, a⟩ ⟨Y, b⟩ => ⟨X ++ Y, by rw [b, a, List.append_assoc]⟩
theorem Ext.add {S T : List St3} (x : St3) : Ext S T → Ext S (T ++ [x]) := fun ⟨X, a⟩ => ⟨X ++ [x], by rw [a, List.append_assoc]⟩
theorem Ext.get {S T : List St3} {i : Nat} {x : St3} : Ext S T → S[i]? = some x → T[i]? = some x := fun ⟨X, a⟩ h => by rw [a]; exact get_pre h
theorem last_get {α : Type} (S : List α) (x : α) : (S ++ [x])[S.length]? = some x := by
  rw [List.getElem?_append_right (Nat.le_refl _), Nat.sub_self]
  rfl
/-- the letters -/
def sg (d : PyData) (z : Str) : Prop := PyData.str z ∈ wk d
theorem sg_node {o z : Str} {ps : List PyData} : sg (node o ps) z ↔ ∃ p ∈ ps, sg p z := by
  unfold sg
  rw [wk_node, List.mem_cons, mem_wks]
  exact ⟨fun h => h.elim (fun q => by cases q) id, .inr⟩
theorem sg_part {d p : PyData} {z : Str} (hp : p ∈ partsD d) (h : sg p z) : sg d z := wk_parts p hp h
structure FOk (l r : PyData) (d : Nat) (s : S2) (o : Fo × S2) : Prop where
  tT : isT d o.1.t = true
  lvt : lv o.1.t ≤ lv l * lv r
  sgl : ∀ z, sg o.1.t z → sg l z
  sgr : ∀ z, sg o.1.t z → sg r z
  x1 : Ext s.1 o.2.1
  x2 : Ext s.2 o.2.2
  d1 : Dv o.2.1
  d2 : Dv o.2.2
  a1 : ∃ S w, o.2.1 = S ++ [⟨l, o.1.t, w⟩] ∧ o.1.i = S.length
  a2 : ∃ S w, o.2.2 = S ++ [⟨o.1.t, r, w⟩] ∧ o.1.j = S.length
  l1 : o.2.1.length + 5 ≤ s.1.length + 6 * (lv l * lv r)
  l2 : o.2.2.length + 5 ≤ s.2.length + 6 * (lv l * lv r)
/-- a row -/
structure RowOk (l r : PyData) (d : Nat) (L U : List St3) (f : Fo) : Prop where
  tT : isT d f.t = true
  lvt : lv f.t ≤ lv l * lv r
  sgl : ∀ z, sg f.t z → sg l z
  sgr : ∀ z, sg f.t z → sg r z
  a1 : ∃ w, L[f.i]? = some ⟨l, f.t, w⟩
  a2 : ∃ w, U[f.j]? = some ⟨f.t, r, w⟩
theorem RowOk.ext {l r : PyData} {d : Nat} {L U L' U' : List St3} {f : Fo} (h : RowOk l r d L U f) (e1 : Ext L L') (e2 : Ext U U') : RowOk l r d L' U' f :=
  ⟨h.tT, h.lvt, h.sgl, h.sgr, let ⟨w, q⟩ := h.a1; ⟨w, e1.get q⟩, let ⟨w, q⟩ := h.a2; ⟨w, e2.get q⟩⟩
theorem FOk.row {l r : PyData} {d : Nat} {s : S2} {o : Fo × S2} (h : FOk l r d s o) : RowOk l r d o.2.1 o.2.2 o.1 :=
  ⟨h.tT, h.lvt, h.sgl, h.sgr, by
    obtain ⟨S, w, e, q⟩ := h.a1
    exact ⟨w, by rw [e, q]; exact last_get S _⟩, by
    obtain ⟨S, w, e, q⟩ := h.a2
    exact ⟨w, by rw [e, q]; exact last_get S _⟩⟩
inductive Rows (L R : PyData → PyData) (d : Nat) (A U : List St3) : List PyData → List Fo → Prop
  | nil : Rows L R d A U [] []
  | cons {p : PyData} {f : Fo} {ps : List PyData} {fs : List Fo} : RowOk (L p) (R p) d A U f → Rows L R d A U ps fs → Rows L R d A U (p :: ps) (f :: fs)
section
variable {L R : PyData → PyData} {d : Nat} {A U : List St3}
theorem Rows.len {ps : List PyData} {fs : List Fo} (h : Rows L R d A U ps fs) : ps.length = fs.length := by
  induction h with
  | nil => rfl
  | cons _ _ ih => rw [List.length_cons, List.length_cons, ih]
theorem Rows.get {ps : List PyData} {fs : List Fo} (h : Rows L R d A U ps fs) : ∀ {k : Nat} {p : PyData} {f : Fo}, ps[k]? = some p → fs[k]? = some f → RowOk (L p) (R p) d A U f := by
  induction h with
  | nil => intro k p f h; cases h
  | cons h _ ih =>
    intro k p f h1 h2
    cases k with
    | zero => cases h1; cases h2; exact h
    | succ k => exact ih h1 h2
theorem Rows.mem {ps : List PyData} {fs : List Fo} (h : Rows L R d A U ps fs) {f : Fo} (hf : f ∈ fs) : ∃ p ∈ ps, RowOk (L p) (R p) d A U f := by
  induction h with
  | nil => cases hf
  | cons h _ ih =>
    rcases List.mem_cons.mp hf with rfl | hf
    · exact ⟨_, List.mem_cons_self, h⟩
    · obtain ⟨p, hp, q⟩ := ih hf
      exact ⟨p, List.mem_cons_of_mem _ hp, q⟩
theorem Rows.lv {ps : List PyData} {fs : List Fo} (h : Rows L R d A U ps fs) : ((fs.map Fo.t).map lv).sum ≤ (ps.map fun p => lv (L p) * lv (R p)).sum := by
  induction h with
  | nil => exact Nat.le_refl _
  | cons h _ ih =>
    simp only [List.map_cons, List.sum_cons]
    have := h.lvt
    omega
theorem mapS_ok {f : PyData → S2 → Fo × S2} : ∀ {ps : List PyData} {s : S2}, (∀ p ∈ ps, ∀ s, Dv s.1 → Dv s.2 → FOk (L p) (R p) d s (f p s)) → Dv s.1 → Dv s.2 →
    Ext s.1 (mapS f ps s).2.1 ∧ Ext s.2 (mapS f ps s).2.2 ∧ Dv (mapS f ps s).2.1 ∧ Dv (mapS f ps s).2.2 ∧ Rows L R d (mapS f ps s).2.1 (mapS f ps s).2.2 ps (mapS f ps s).1 ∧
    (mapS f ps s).2.1.length + 5 * ps.length ≤ s.1.length + 6 * (ps.map fun p => lv (L p) * lv (R p)).sum ∧ (mapS f ps s).2.2.length + 5 * ps.length ≤ s.2.length + 6 * (ps.map fun p => lv (L p) * lv (R p)).sum
  | [], s, _, h1, h2 => ⟨Ext.refl _, Ext.refl _, h1, h2, .nil, Nat.le_refl _, Nat.le_refl _⟩
  | p :: ps, s, h, h1, h2 => by
    have hp := h p List.mem_cons_self s h1 h2
    obtain ⟨a, b, c, e, g, l1, l2⟩ := mapS_ok (ps := ps) (s := (f p s).2) (fun q hq => h q (List.mem_cons_of_mem _ hq)) hp.d1 hp.d2
    have z1 := hp.l1
    have z2 := hp.l2
    refine ⟨hp.x1.trans a, hp.x2.trans b, c, e, .cons (hp.row.ext a b) g, ?_, ?_⟩
    · rw [List.map_cons, List.sum_cons, List.length_cons]
      show (mapS f ps (f p s).2).2.1.length + _ ≤ _
      omega
    · rw [List.map_cons, List.sum_cons, List.length_cons]
      show (mapS f ps (f p s).2).2.2.length + _ ≤ _
      omega
end
theorem foldO_ok {r t : PyData} {ts : List PyData} {d n : Nat} {U : List St3} (ht : t = node BAR ts) (hT : isT 9 t = true) (hd : d ≤ 9) : ∀ {ps : List PyData} {fs : List Fo} {A : List St3} {is : List Nat}, Rows id (fun _ => r) d A U ps fs → (∀ p ∈ ps, isT 9 p = true) → (∀ f ∈ fs, f.t ∈ ts) → Dv A →
    ∃ js, ((ps.zip fs).foldl (stepO t) (A, is)).2 = is ++ js ∧ Ext A ((ps.zip fs).foldl (stepO t) (A, is)).1 ∧ Dv ((ps.zip fs).foldl (stepO t) (A, is)).1 ∧ ((ps.zip fs).foldl (stepO t) (A, is)).1.length = A.length + 2 * ps.length ∧
      js.length = ps.length ∧ ∀ (k i : Nat) (p : PyData), js[k]? = some i → ps[k]? = some p → i < ((ps.zip fs).foldl (stepO t) (A, is)).1.length ∧ ∃ w, ((ps.zip fs).foldl (stepO t) (A, is)).1[i]? = some ⟨p, t, w⟩
  | [], fs, A, is, h, _, _, hA => ⟨[], (List.append_nil _).symm, Ext.refl _, hA, rfl, rfl, fun k i p q => by cases q⟩
  | p :: ps, fs, A, is, h, hp, hf, hA => by
    cases h with
    | @cons _ f _ fs h h' =>
      obtain ⟨w, a1⟩ := h.a1
      have e1 : Ext A (A ++ [⟨f.t, t, wPart⟩]) := (Ext.refl A).add _
      have v1 : Dv (A ++ [⟨f.t, t, wPart⟩]) := hA.add (by rw [ht]; exact .partO (hf f List.mem_cons_self)) (isT_mono h.tT hd) hT
      have e2 : Ext A ((A ++ [⟨f.t, t, wPart⟩]) ++ [⟨p, t, wChain f.i A.length⟩]) := e1.add _
      have v2 : Dv ((A ++ [⟨f.t, t, wPart⟩]) ++ [⟨p, t, wChain f.i A.length⟩]) := v1.add (.chain (by
          have := (List.getElem?_eq_some_iff.mp a1).1
          rw [List.length_append, List.length_cons, List.length_nil]
          omega) (by
          rw [List.length_append, List.length_cons, List.length_nil]
          omega) (e1.get a1) (last_get A _)) (hp p List.mem_cons_self) hT
      have hl2 : ((A ++ [(⟨f.t, t, wPart⟩ : St3)]) ++ [(⟨p, t, wChain f.i A.length⟩ : St3)]).length = A.length + 2 := by simp
      have hrows : Rows id (fun _ => r) d ((A ++ [⟨f.t, t, wPart⟩]) ++ [⟨p, t, wChain f.i A.length⟩]) U ps fs := by
        clear hf hp h
        induction h' with
        | nil => exact .nil
        | cons h _ ih => exact .cons (h.ext e2 (Ext.refl _)) ih
      obtain ⟨js, k1, k2, k3, k4, k5, k6⟩ := foldO_ok (n := n) ht hT hd (is := is ++ [A.length + 1]) hrows (fun q hq => hp q (List.mem_cons_of_mem _ hq)) (fun q hq => hf q (List.mem_cons_of_mem _ hq)) v2
      refine ⟨(A.length + 1) :: js, ?_, e2.trans k2, k3, ?_, by rw [List.length_cons, List.length_cons, k5], ?_⟩
      · show ((ps.zip fs).foldl (stepO t) (_, is ++ [A.length + 1])).2 = _
        rw [k1, List.append_assoc]
        rfl
      · show ((ps.zip fs).foldl (stepO t) (_, is ++ [A.length + 1])).1.length = _
        rw [k4, hl2, List.length_cons]
        omega
      · intro k i q h1 h2
        show i < ((ps.zip fs).foldl (stepO t) (_, is ++ [A.length + 1])).1.length ∧ ∃ w, ((ps.zip fs).foldl (stepO t) (_, is ++ [A.length + 1])).1[i]? = _
        cases k with
        | zero =>
          cases h1
          cases h2
          refine ⟨by rw [k4, hl2]; omega, _, k2.get (x := ⟨p, t, wChain f.i A.length⟩) ?_⟩
          have := last_get (A ++ [(⟨f.t, t, wPart⟩ : St3)]) (⟨p, t, wChain f.i A.length⟩ : St3)
          rw [List.length_append, List.length_cons, List.length_nil] at this
          exact this
        | succ k => exact k6 k i q h1 h2
theorem foldI_ok {l t : PyData} {ts : List PyData} {d n : Nat} {A : List St3} (ht : t = node AMP ts) (hT : isT 9 t = true) (hd : d ≤ 9) : ∀ {ps : List PyData} {fs : List Fo} {U : List St3} {is : List Nat}, Rows (fun _ => l) id d A U ps fs → (∀ p ∈ ps, isT 9 p = true) → (∀ f ∈ fs, f.t ∈ ts) → Dv U →
    ∃ js, ((ps.zip fs).foldl (stepI t) (U, is)).2 = is ++ js ∧ Ext U ((ps.zip fs).foldl (stepI t) (U, is)).1 ∧ Dv ((ps.zip fs).foldl (stepI t) (U, is)).1 ∧ ((ps.zip fs).foldl (stepI t) (U, is)).1.length = U.length + 2 * ps.length ∧
      js.length = ps.length ∧ ∀ (k i : Nat) (p : PyData), js[k]? = some i → ps[k]? = some p → i < ((ps.zip fs).foldl (stepI t) (U, is)).1.length ∧ ∃ w, ((ps.zip fs).foldl (stepI t) (U, is)).1[i]? = some ⟨t, p, w⟩
  | [], fs, U, is, h, _, _, hA => ⟨[], (List.append_nil _).symm, Ext.refl _, hA, rfl, rfl, fun k i p q => by cases q⟩
  | p :: ps, fs, U, is, h, hp, hf, hA => by
    cases h with
    | @cons _ f _ fs h h' =>
      obtain ⟨w, a1⟩ := h.a2
      have e1 : Ext U (U ++ [⟨t, f.t, wPart⟩]) := (Ext.refl U).add _
      have v1 : Dv (U ++ [⟨t, f.t, wPart⟩]) := hA.add (by rw [ht]; exact .partA (hf f List.mem_cons_self)) hT (isT_mono h.tT hd)
      have e2 : Ext U ((U ++ [⟨t, f.t, wPart⟩]) ++ [⟨t, p, wChain U.length f.j⟩]) := e1.add _
      have v2 : Dv ((U ++ [⟨t, f.t, wPart⟩]) ++ [⟨t, p, wChain U.length f.j⟩]) := v1.add (.chain (by
          rw [List.length_append, List.length_cons, List.length_nil]
          omega) (by
          have := (List.getElem?_eq_some_iff.mp a1).1
          rw [List.length_append, List.length_cons, List.length_nil]
          omega) (last_get U _) (e1.get a1)) hT (hp p List.mem_cons_self)
      have hl2 : ((U ++ [(⟨t, f.t, wPart⟩ : St3)]) ++ [(⟨t, p, wChain U.length f.j⟩ : St3)]).length = U.length + 2 := by simp
      have hrows : Rows (fun _ => l) id d A ((U ++ [⟨t, f.t, wPart⟩]) ++ [⟨t, p, wChain U.length f.j⟩]) ps fs := by
        clear hf hp h
        induction h' with
        | nil => exact .nil
        | cons h _ ih => exact .cons (h.ext (Ext.refl _) e2) ih
      obtain ⟨js, k1, k2, k3, k4, k5, k6⟩ := foldI_ok (n := n) ht hT hd (is := is ++ [U.length + 1]) hrows (fun q hq => hp q (List.mem_cons_of_mem _ hq)) (fun q hq => hf q (List.mem_cons_of_mem _ hq)) v2
      refine ⟨(U.length + 1) :: js, ?_, e2.trans k2, k3, ?_, by rw [List.length_cons, List.length_cons, k5], ?_⟩
      · show ((ps.zip fs).foldl (stepI t) (_, is ++ [U.length + 1])).2 = _
        rw [k1, List.append_assoc]
        rfl
      · show ((ps.zip fs).foldl (stepI t) (_, is ++ [U.length + 1])).1.length = _
        rw [k4, hl2, List.length_cons]
        omega
      · intro k i q h1 h2
        show i < ((ps.zip fs).foldl (stepI t) (_, is ++ [U.length + 1])).1.length ∧ ∃ w, ((ps.zip fs).foldl (stepI t) (_, is ++ [U.length + 1])).1[i]? = _
        cases k with
        | zero =>
          cases h1
          cases h2
          refine ⟨by rw [k4, hl2]; omega, _, k2.get (x := ⟨t, p, wChain U.length f.j⟩) ?_⟩
          have := last_get (U ++ [(⟨t, f.t, wPart⟩ : St3)]) (⟨t, p, wChain U.length f.j⟩ : St3)
          rw [List.length_append, List.length_cons, List.length_nil] at this
          exact this
        | succ k => exact k6 k i q h1 h2
theorem sum_mulr {f : PyData → Nat} {c : Nat} : ∀ {ps : List PyData}, (ps.map fun p => f p * c).sum = (ps.map f).sum * c
  | [] => (Nat.zero_mul c).symm
  | p :: ps => by rw [List.map_cons, List.sum_cons, sum_mulr, List.map_cons, List.sum_cons, Nat.add_mul]
theorem part_lt {n : Nat} {d p : PyData} (h : isT n d = true) (hp : p ∈ partsD d) : lv p + 1 ≤ lv d := by
  obtain ⟨m, e, c⟩ := isT_cases h
  rcases c with ⟨z, rfl, _⟩ | ⟨o, ps, rfl, _, h2, h3⟩
  · cases hp
  · rw [lv_node]
    have hp' : p ∈ ps := hp
    obtain ⟨a, b, rfl⟩ := List.append_of_mem hp'
    have h1 : ∀ x ∈ a ++ b, 1 ≤ lv x := fun x hx => lv_pos (h3 x (by
      rcases List.mem_append.mp hx with q | q
      · exact List.mem_append_left _ q
      · exact List.mem_append_right _ (List.mem_cons_of_mem _ q)))
    have := sum_pos h1
    rw [List.map_append, List.sum_append] at this
    rw [List.map_append, List.sum_append, List.map_cons, List.sum_cons]
    rw [List.length_append] at this h2
    rw [List.length_cons] at h2
    omega
theorem fnd_ok : ∀ (n : Nat) {l r : PyData} {a b : Nat} {s : S2}, isT a l = true → isT b r = true → a + b ≤ n → a + b ≤ 10 → B l r = true → Dv s.1 → Dv s.2 → FOk l r (a + b - 1) s (fnd n l r s) := by
  intro n
  induction n with
  | zero =>
    intro l r a b s h1 h2 hab
    have : a = 0 := by omega
    subst this
    simp [isT] at h1
  | succ n ih =>
    intro l r a b s h1 h2 hab h10 hB d1 d2
    obtain ⟨am, ea, ca⟩ := isT_cases h1
    obtain ⟨bm, eb, cb⟩ := isT_cases h2
    have pl := lv_pos h1
    have pr := lv_pos h2
    have l9 : isT 9 l = true := isT_mono h1 (by omega)
    have r9 : isT 9 r = true := isT_mono h2 (by omega)
    rw [B_eq h1 h2 (by omega)] at hB
    unfold Bstep at hB
    unfold fnd
    by_cases q0 : PyData.eqv l r = true
    · rw [if_pos q0]
      have e : l = r := (fit_eqv (isT_fit h1) (isT_fit h2)).mp q0
      subst e
      have z : 1 ≤ lv l * lv l := Nat.mul_pos pl pl
      exact ⟨isT_mono h1 (by omega), Nat.le_mul_of_pos_right _ pl, fun z h => h, fun z h => h, (Ext.refl _).add _, (Ext.refl _).add _, d1.add .same l9 l9, d2.add .same l9 l9, ⟨_, _, rfl, rfl⟩, ⟨_, _, rfl, rfl⟩,
        by rw [List.length_append, List.length_cons, List.length_nil]; omega, by rw [List.length_append, List.length_cons, List.length_nil]; omega⟩
    rw [if_neg q0] at hB ⊢
    by_cases q1 : opIs BAR l = true
    · rw [if_pos q1] at hB ⊢
      have en := opIs_node q1
      rcases ca with ⟨z, e, _⟩ | ⟨o, ps, e, ho, hl, hps⟩
      · rw [e] at q1; cases q1
      have eo : o = BAR := by
        rw [e] at q1
        simpa [opIs] using q1
      subst eo
      have epp : partsD l = ps := by rw [e]; rfl
      have lvl : lv l = (ps.map lv).sum := by rw [e, lv_node]
      unfold overL
      rw [epp] at hB ⊢
      have hall := List.all_eq_true.mp hB
      obtain ⟨k1, k2, k3, k4, k5, k6, k7⟩ := mapS_ok (L := id) (R := fun _ => r) (d := am + b - 1) (f := fun p => fnd n p r) (ps := ps) (s := s) (fun p hp s d1 d2 => ih (hps p hp) h2 (by omega) (by omega) (hall p hp) d1 d2) d1 d2
      generalize mapS (fun p => fnd n p r) ps s = m at k1 k2 k3 k4 k5 k6 k7 ⊢
      obtain ⟨fs, A, U⟩ := m
      dsimp only at k1 k2 k3 k4 k5 k6 k7 ⊢
      have hS : (ps.map fun p => lv (id p) * lv r).sum = lv l * lv r := by
        rw [lvl]
        exact sum_mulr (f := lv)
      rw [hS] at k6 k7
      have hlen := k5.len
      have hT : isT (a + b - 1) (node BAR (fs.map Fo.t)) = true := by
        have e1 : a + b - 1 = (am + b - 1) + 1 := by omega
        rw [e1]
        refine isT_mk opB (by rw [List.length_map, ← hlen]; exact hl) fun p hp => ?_
        obtain ⟨f, hf, rfl⟩ := List.mem_map.mp hp
        obtain ⟨p, _, q⟩ := k5.mem hf
        exact q.tT
      have hT9 := isT_mono hT (show a + b - 1 ≤ 9 by omega)
      obtain ⟨js, j1, j2, j3, j4, j5, j6⟩ := foldO_ok (n := n) rfl hT9 (show am + b - 1 ≤ 9 by omega) (is := []) k5 (fun p hp => isT_mono (hps p hp) (by omega)) (fun f hf => List.mem_map_of_mem hf) k3
      rw [List.nil_append] at j1
      generalize ((ps.zip fs).foldl (stepO (node BAR (fs.map Fo.t))) (A, [])) = kk at j1 j2 j3 j4 j5 j6 ⊢
      obtain ⟨A', is⟩ := kk
      dsimp only at j1 j2 j3 j4 j5 j6 ⊢
      subst j1
      have hlv : lv (node BAR (fs.map Fo.t)) ≤ lv l * lv r := by
        rw [lv_node]
        exact Nat.le_trans k5.lv (Nat.le_of_eq hS)
      refine ⟨hT, hlv, fun z hz => ?_, fun z hz => ?_, (k1.trans j2).add _, k2.add _, j3.add (by rw [e]; exact .out j5 j6) l9 hT9, k4.add (.out ?_ ?_) hT9 r9, ⟨_, _, rfl, rfl⟩, ⟨_, _, rfl, rfl⟩, ?_, ?_⟩
      · obtain ⟨t, ht, hz⟩ := sg_node.mp hz
        obtain ⟨f, hf, rfl⟩ := List.mem_map.mp ht
        obtain ⟨p, hp, q⟩ := k5.mem hf
        exact sg_part (d := l) (p := p) (by rw [epp]; exact hp) (q.sgl z hz)
      · obtain ⟨t, ht, hz⟩ := sg_node.mp hz
        obtain ⟨f, hf, rfl⟩ := List.mem_map.mp ht
        obtain ⟨p, hp, q⟩ := k5.mem hf
        exact q.sgr z hz
      · rw [List.length_map, List.length_map]
      · intro k i p h1 h2
        rw [List.getElem?_map] at h1 h2
        cases hfk : fs[k]? with
        | none => rw [hfk] at h1; cases h1
        | some f =>
          rw [hfk] at h1 h2
          cases h1
          cases h2
          have hk : k < ps.length := by rw [hlen]; exact (List.getElem?_eq_some_iff.mp hfk).1
          obtain ⟨w, q⟩ := (k5.get (List.getElem?_eq_getElem hk) hfk).a2
          exact ⟨(List.getElem?_eq_some_iff.mp q).1, w, q⟩
      · show (A' ++ _).length + 5 ≤ _
        rw [List.length_append, List.length_cons, List.length_nil]
        omega
      · show (U ++ _).length + 5 ≤ _
        rw [List.length_append, List.length_cons, List.length_nil]
        omega
    rw [if_neg q1] at hB ⊢
    by_cases q2 : opIs AMP r = true
    · rw [if_pos q2] at hB ⊢
      have en := opIs_node q2
      rcases cb with ⟨z, e, _⟩ | ⟨o, ps, e, ho, hl, hps⟩
      · rw [e] at q2; cases q2
      have eo : o = AMP := by
        rw [e] at q2
        simpa [opIs] using q2
      subst eo
      have epp : partsD r = ps := by rw [e]; rfl
      have lvl : lv r = (ps.map lv).sum := by rw [e, lv_node]
      unfold overR
      rw [epp] at hB ⊢
      have hall := List.all_eq_true.mp hB
      obtain ⟨k1, k2, k3, k4, k5, k6, k7⟩ := mapS_ok (L := fun _ => l) (R := id) (d := a + bm - 1) (f := fun p => fnd n l p) (ps := ps) (s := s) (fun p hp s d1 d2 => ih h1 (hps p hp) (by omega) (by omega) (hall p hp) d1 d2) d1 d2
      generalize mapS (fun p => fnd n l p) ps s = m at k1 k2 k3 k4 k5 k6 k7 ⊢
      obtain ⟨fs, A, U⟩ := m
      dsimp only at k1 k2 k3 k4 k5 k6 k7 ⊢
      have hS : (ps.map fun p => lv l * lv (id p)).sum = lv l * lv r := by
        rw [lvl]
        exact sum_mul (f := lv)
      rw [hS] at k6 k7
      have hlen := k5.len
      have hT : isT (a + b - 1) (node AMP (fs.map Fo.t)) = true := by
        have e1 : a + b - 1 = (a + bm - 1) + 1 := by omega
        rw [e1]
        refine isT_mk opA (by rw [List.length_map, ← hlen]; exact hl) fun p hp => ?_
        obtain ⟨f, hf, rfl⟩ := List.mem_map.mp hp
        obtain ⟨p, _, q⟩ := k5.mem hf
        exact q.tT
      have hT9 := isT_mono hT (show a + b - 1 ≤ 9 by omega)
      obtain ⟨js, j1, j2, j3, j4, j5, j6⟩ := foldI_ok (n := n) rfl hT9 (show a + bm - 1 ≤ 9 by omega) (is := []) k5 (fun p hp => isT_mono (hps p hp) (by omega)) (fun f hf => List.mem_map_of_mem hf) k4
      rw [List.nil_append] at j1
      generalize ((ps.zip fs).foldl (stepI (node AMP (fs.map Fo.t))) (U, [])) = kk at j1 j2 j3 j4 j5 j6 ⊢
      obtain ⟨U', is⟩ := kk
      dsimp only at j1 j2 j3 j4 j5 j6 ⊢
      subst j1
      have hlv : lv (node AMP (fs.map Fo.t)) ≤ lv l * lv r := by
        rw [lv_node]
        exact Nat.le_trans k5.lv (Nat.le_of_eq hS)
      refine ⟨hT, hlv, fun z hz => ?_, fun z hz => ?_, k1.add _, (k2.trans j2).add _, k3.add (.into ?_ ?_) l9 hT9, j3.add (by rw [e]; exact .into j5 j6) hT9 r9, ⟨_, _, rfl, rfl⟩, ⟨_, _, rfl, rfl⟩, ?_, ?_⟩
      · obtain ⟨t, ht, hz⟩ := sg_node.mp hz
        obtain ⟨f, hf, rfl⟩ := List.mem_map.mp ht
        obtain ⟨p, hp, q⟩ := k5.mem hf
        exact q.sgl z hz
      · obtain ⟨t, ht, hz⟩ := sg_node.mp hz
        obtain ⟨f, hf, rfl⟩ := List.mem_map.mp ht
        obtain ⟨p, hp, q⟩ := k5.mem hf
        exact sg_part (d := r) (p := p) (by rw [epp]; exact hp) (q.sgr z hz)
      · rw [List.length_map, List.length_map]
      · intro k i p h1 h2
        rw [List.getElem?_map] at h1 h2
        cases hfk : fs[k]? with
        | none => rw [hfk] at h1; cases h1
        | some f =>
          rw [hfk] at h1 h2
          cases h1
          cases h2
          have hk : k < ps.length := by rw [hlen]; exact (List.getElem?_eq_some_iff.mp hfk).1
          obtain ⟨w, q⟩ := (k5.get (List.getElem?_eq_getElem hk) hfk).a1
          exact ⟨(List.getElem?_eq_some_iff.mp q).1, w, q⟩
      · show (A ++ _).length + 5 ≤ _
        rw [List.length_append, List.length_cons, List.length_nil]
        omega
      · show (U' ++ _).length + 5 ≤ _
        rw [List.length_append, List.length_cons, List.length_nil]
        omega
    rw [if_neg q2] at hB ⊢
    have hs : (rsn l r).isSome = true := by rw [rsn_B h1 h2 (by omega), B_eq h1 h2 (by omega)]; unfold Bstep; rw [if_neg q0, if_neg q1, if_neg q2]; exact hB
    unfold thru
    have hr : ∀ p, rsn l r = some (.right p) → p ∈ partsD r ∧ opIs BAR r = true ∧ B l p = true := fun p h => by
      unfold rsn at h
      rw [if_neg q0, if_neg q1, if_neg q2] at h
      by_cases q3 : opIs BAR r = true
      · rw [if_pos q3] at h
        cases hf : (partsD r).find? (fun p => B l p) with
        | some p' =>
          rw [hf] at h
          cases h
          exact ⟨List.mem_of_find?_eq_some hf, q3, List.find?_some (p := fun p => B l p) hf⟩
        | none =>
          rw [hf] at h
          dsimp only at h
          split at h <;> cases h
      · rw [if_neg q3] at h
        dsimp only at h
        split at h <;> cases h
    have hlf : ∀ p, rsn l r = some (.left p) → p ∈ partsD l ∧ opIs AMP l = true ∧ B p r = true := fun p h => by
      unfold rsn at h
      rw [if_neg q0, if_neg q1, if_neg q2] at h
      generalize (if opIs BAR r = true then (partsD r).find? (fun p => B l p) else none) = o at h
      cases o with
      | some p' => cases h
      | none =>
        by_cases q3 : opIs AMP l = true
        · rw [if_pos q3] at h
          cases hf : (partsD l).find? (fun p => B p r) with
          | some p' =>
            rw [hf] at h
            cases h
            exact ⟨List.mem_of_find?_eq_some hf, q3, List.find?_some (p := fun p => B p r) hf⟩
          | none => rw [hf] at h; cases h
        · rw [if_neg q3] at h
          cases h
    match hR : rsn l r with
    | some (.right p) =>
      obtain ⟨hp, ho, hb⟩ := hr p hR
      obtain ⟨k, ek, hk⟩ := parts_T h2 hp
      have o := ih (s := s) h1 hk (by omega) (by omega) hb d1 d2
      have hlt : lv l * (lv p + 1) ≤ lv l * lv r := Nat.mul_le_mul_left _ (part_lt h2 hp)
      rw [Nat.mul_add, Nat.mul_one] at hlt
      have t9 := isT_mono o.tT (show a + k - 1 ≤ 9 by omega)
      have z1 := o.l1
      have z2 := o.l2
      obtain ⟨S, w, es, ej⟩ := o.a2
      have en := opIs_node ho
      dsimp only
      generalize fnd n l p s = m at o t9 z1 z2 es ej ⊢
      obtain ⟨⟨t, i, j⟩, A, U⟩ := m
      dsimp only at o t9 z1 z2 es ej ⊢
      have p9 : isT 9 p = true := isT_mono hk (by omega)
      have v1 : Dv (U ++ [⟨p, r, wPart⟩]) := o.d2.add (by rw [en]; exact .partO hp) p9 r9
      have e1 : Ext U (U ++ [⟨p, r, wPart⟩]) := (Ext.refl U).add _
      have hU : U[j]? = some ⟨t, p, w⟩ := by rw [es, ej]; exact last_get S _
      refine ⟨isT_mono o.tT (by omega), Nat.le_trans o.lvt (by omega), o.sgl, fun z hz => sg_part hp (o.sgr z hz), o.x1, (o.x2.add _).add _, o.d1, v1.add (.chain ?_ ?_ (e1.get hU) (last_get U _)) t9 r9, o.a1, ⟨_, _, rfl, ?_⟩, ?_, ?_⟩
      · have := (List.getElem?_eq_some_iff.mp hU).1
        rw [List.length_append, List.length_cons, List.length_nil]
        omega
      · rw [List.length_append, List.length_cons, List.length_nil]
        omega
      · rw [List.length_append, List.length_cons, List.length_nil]
      · show A.length + 5 ≤ _
        omega
      · show ((U ++ [_]) ++ [_]).length + 5 ≤ _
        rw [List.length_append, List.length_append, List.length_cons, List.length_nil, List.length_cons, List.length_nil]
        omega
    | some (.left p) =>
      obtain ⟨hp, ho, hb⟩ := hlf p hR
      obtain ⟨k, ek, hk⟩ := parts_T h1 hp
      have o := ih (s := s) hk h2 (by omega) (by omega) hb d1 d2
      have hlt : (lv p + 1) * lv r ≤ lv l * lv r := Nat.mul_le_mul_right _ (part_lt h1 hp)
      rw [Nat.add_mul, Nat.one_mul] at hlt
      have t9 := isT_mono o.tT (show k + b - 1 ≤ 9 by omega)
      have z1 := o.l1
      have z2 := o.l2
      obtain ⟨S, w, es, ej⟩ := o.a1
      have en := opIs_node ho
      dsimp only
      generalize fnd n p r s = m at o t9 z1 z2 es ej ⊢
      obtain ⟨⟨t, i, j⟩, A, U⟩ := m
      dsimp only at o t9 z1 z2 es ej ⊢
      have p9 : isT 9 p = true := isT_mono hk (by omega)
      have v1 : Dv (A ++ [⟨l, p, wPart⟩]) := o.d1.add (by rw [en]; exact .partA hp) l9 p9
      have e1 : Ext A (A ++ [⟨l, p, wPart⟩]) := (Ext.refl A).add _
      have hA : A[i]? = some ⟨p, t, w⟩ := by rw [es, ej]; exact last_get S _
      refine ⟨isT_mono o.tT (by omega), Nat.le_trans o.lvt (by omega), fun z hz => sg_part hp (o.sgl z hz), o.sgr, (o.x1.add _).add _, o.x2, v1.add (.chain ?_ ?_ (last_get A _) (e1.get hA)) l9 t9, o.d2, ⟨_, _, rfl, ?_⟩, o.a2, ?_, ?_⟩
      · rw [List.length_append, List.length_cons, List.length_nil]
        omega
      · have := (List.getElem?_eq_some_iff.mp hA).1
        rw [List.length_append, List.length_cons, List.length_nil]
        omega
      · rw [List.length_append, List.length_cons, List.length_nil]
      · show ((A ++ [_]) ++ [_]).length + 5 ≤ _
        rw [List.length_append, List.length_append, List.length_cons, List.length_nil, List.length_cons, List.length_nil]
        omega
      · show U.length + 5 ≤ _
        omega
    | none => rw [hR] at hs; cases hs
    | some .same =>
      unfold rsn at hR
      rw [if_neg q0, if_neg q1, if_neg q2] at hR
      split at hR
      · cases hR
      · split at hR <;> cases hR
    | some (.out _) =>
      unfold rsn at hR
      rw [if_neg q0, if_neg q1, if_neg q2] at hR
      split at hR
      · cases hR
      · split at hR <;> cases hR
    | some (.into _) =>
      unfold rsn at hR
      rw [if_neg q0, if_neg q1, if_neg q2] at hR
      split at hR
      · cases hR
      · split at hR <;> cases hR
end Z
/-! the world of a bridge; noted, linked -/
namespace Z
open PySem L2
section
variable {K : PySem.W.Frag} {W : Wd} {δ : List Sl} {g : W.G} {tb : TS} {tg : TG} {P : Po W} {tA : TA}
theorem x_forZ {ds es : List PyData} (hl : ds.length = es.length) (h : AvS K W tA δ g (isA [.dat (.tuple ds), .dat (.list es)] g)) (J : Nat → List Sl → W.G → Prop) (h0 : J 0 δ g)
    (hs : ∀ i d e δ' g', ds[i]? = some d → es[i]? = some e → J i δ' g' → GvS K W tg (.dat (.tuple [d, e])) δ' g' fun δ2 g2 => ExS K W tb δ2 g2 { P with nx := J (i + 1), ct := J (i + 1), bk := P.nx }) (hd : ∀ δ' g', J ds.length δ' g' → P.nx δ' g') : ExS K W (tFor (iZTL K tA) tg tb) δ g P := fun D σ H i f d =>
  h σ H i f _ fun vs ss g1 H1 e1 i1 rs ⟨a, b⟩ => by
    subst a; subst b
    cases rs with
    | cons r1 rr =>
      cases rr with
      | cons r2 rr =>
        cases rr
        have r1' : Da K W.N H1 _ (.tuple ds) := r1
        have r2' : Da K W.N H1 _ (.list es) := r2
        cases r1' with
        | tup x z t =>
          cases r2' with
          | lst x' n' z' t' =>
            have keep : ∀ {H2 : Hp}, Stp W H1 H2 → SqT K H2 _ _ := fun e2 => SqT_keep (fun o q m => e2.keep _ o (fun z => m (by have := W.mu i1 z; rw [q] at this; exact this)) q) x
            have keep' : ∀ {H2 : Hp}, Stp W H1 H2 → SqL K H2 _ _ := fun e2 => SqL.of (e2.keep _ _ (fun m => n' (W.sub _ m)) x')
            refine ⟨_, _, _, _, rfl, x, SqL.of x', for_ztl (K := K) (by rw [t.length, t'.length, hl]) (fun k σ2 H2 => ∃ δ2 g2, Stp W H1 H2 ∧ W.I g2 H2 ∧ Fr K W.N H2 σ2 δ2 ∧ J k δ2 g2) ⟨δ, _, Stp.refl _, i1, f.stp i e1, h0⟩ (fun k σ2 H2 ⟨_, _, e2, _⟩ => ⟨keep e2, keep' e2⟩) ?_ ?_⟩
            · rintro k y1 y2 T σ2 H2 hk1 hk2 ⟨δ2, g2, e2, i2, f2, j2⟩ hT
              obtain ⟨d1, hd1, rd1⟩ := t.getV hk1
              obtain ⟨d2, hd2, rd2⟩ := t'.getV hk2
              have st := Stp.same (W := W) (Same.new (o := HO.tup [y1, y2]) hT)
              have rd : Da K W.N (upd H2 T (.tup [y1, y2])) (.ref T) (.tuple [d1, d2]) := new_tup i2 hT (by show 2 ≤ sizeLine; decide) (.cons (Da.stp i1 e2 rd1) (.cons (Da.stp i1 e2 rd2) .nil))
              refine hs k d1 d2 δ2 g2 hd1 hd2 j2 _ σ2 _ (W.mono i2 (Same.new hT)) rd (f2.stp i2 st) _ fun σ3 δ3 g3 H3 e3 i3 f3 p3 => ?_
              refine p3 _ σ3 H3 i3 f3 ⟨fun σ4 δ4 g4 H4 e4 i4 f4 j4 => ⟨δ4, g4, ((e2.trans st).trans e3).trans e4, i4, f4, j4⟩, fun v s g4 H4 e4 => d.rt v s g4 H4 ((((e1.trans e2).trans st).trans e3).trans e4), fun σ4 δ4 g4 H4 e4 => d.nx σ4 δ4 g4 H4 ((((e1.trans e2).trans st).trans e3).trans e4), fun σ4 δ4 g4 H4 e4 i4 f4 j4 => ⟨δ4, g4, ((e2.trans st).trans e3).trans e4, i4, f4, j4⟩⟩
            · rintro σ2 H2 ⟨δ2, g2, e2, i2, f2, j2⟩
              rw [t.length] at j2
              exact d.nx σ2 δ2 g2 H2 (e1.trans e2) i2 f2 (hd δ2 g2 j2)
end

/-! ### a list of one's own -/
def Wd.own (K : PySem.W.Frag) (W : Wd) (p : Addr) : Wd where
  G := W.G × List PyData
  M := fun a => W.M a ∨ a = p
  N := fun a => W.N a ∨ a = p
  I := fun g H => W.I g.1 H ∧ ¬ W.N p ∧ nols g.2 = true ∧ ∃ xs, H p = some (.lst xs) ∧ DaAll K (fun a => W.N a ∨ a = p) H xs g.2
  sub := fun a h => h.elim (fun m => .inl (W.sub a m)) .inr
  loc := fun {g H H'} i k t => by
    obtain ⟨a, b, n, xs, c, d⟩ := i
    exact ⟨W.loc a (fun a n => k a (.inl n)) t, b, n, xs, (k p (.inr rfl)).trans c, DaAll.nolk t _ _ n d⟩
  trk := fun {g H a} i n => by
    obtain ⟨i1, b, _, xs, c, d⟩ := i
    rcases n with n | n
    · exact W.trk i1 n
    · subst n; exact ⟨_, c⟩
  mu := fun {g H a} i n => by
    obtain ⟨i1, b, _, xs, c, d⟩ := i
    rcases n with n | n
    · exact W.mu i1 n
    · subst n; rw [c]; trivial
section
variable {K : PySem.W.Frag} {W : Wd} {δ : List Sl} {g : W.G} {P : Po W} {u : TS} {te : TE}
theorem RelS.sub {N N' : Addr → Prop} {H : Hp} {v : V} (h : ∀ a, N' a → (∃ o, H a = some o) → N a) : ∀ {s : Sl}, RelS K N H v s → RelS K N' H v s
  | .no, h => h
  | .dat d, r => Da.keep (fun _ _ _ q => q) (fun _ _ q _ => q) h d v r
  | .val _, h => h
theorem Fr.sub {N N' : Addr → Prop} {H : Hp} {σ : St} (h : ∀ a, N' a → (∃ o, H a = some o) → N a) (f : Fr K N H σ δ) : Fr K N' H σ δ := ⟨f.len, fun i s a n => let ⟨v, b, c⟩ := f.at_ i s a n; ⟨v, b, c.sub h⟩⟩
/-- xs = [] and then the rest, the list our own -/
theorem x_own {i : Nat} (h : ∀ p, ExS K (W.own K p) u (δ.set i (.val (.ref p))) (g, []) { nx := fun δ' g' => P.nx δ' g'.1, rt := fun s g' => P.rt s g'.1, bk := fun δ' g' => P.bk δ' g'.1, ct := fun δ' g' => P.ct δ' g'.1 }) : ExS K W (tSeq (tAsg (tLst tNil) (gName i)) u) δ g P := fun D σ H iH f d => by
  refine ⟨Nat.zero_le _, fun p hp => ?_⟩
  have nN : ¬ W.N p := fun n => by
    obtain ⟨o, q⟩ := W.trk iH n
    rw [hp] at q
    cases q
  have st := Stp.same (W := W) (Same.new (o := HO.lst []) hp)
  have hsub : ∀ a, (W.N a ∨ a = p) → (∃ o, H a = some o) → W.N a := fun a n ⟨o, q⟩ => n.elim id fun e => by subst e; rw [hp] at q; cases q
  have iO : (W.own K p).I (g, []) (upd H p (.lst [])) := ⟨W.mono iH (Same.new hp), nN, rfl, [], upd_same, .nil⟩
  have fO : Fr K (W.own K p).N (upd H p (.lst [])) (σ.set i (some (.ref p))) (δ.set i (.val (.ref p))) := by
    have f1 : Fr K (fun a => W.N a ∨ a = p) H σ δ := f.sub hsub
    refine Fr.set (s := .val (.ref p)) ⟨f1.len, fun j s a n => ?_⟩ i rfl
    obtain ⟨v, b, c⟩ := f1.at_ j s a n
    refine ⟨v, b, ?_⟩
    cases s with
    | no => exact c
    | val _ => exact c
    | dat d => exact Da.keep (N := fun a => W.N a ∨ a = p) (N' := fun a => W.N a ∨ a = p) (fun a o _ q => (Same.new hp) a o q) (fun a o q _ => (Same.new hp) a o q) (fun _ q _ => q) d v c
  have back : ∀ {H' : Hp}, Stp (W.own K p) (upd H p (.lst [])) H' → Stp W H H' := fun {H'} e => ⟨fun a o m q => by
      have ne : a ≠ p := fun z => by subst z; rw [hp] at q; cases q
      exact e.keep a o (fun z => z.elim m ne) (by rw [upd_ne ne]; exact q), fun a o q => e.there a o ((Same.new hp) a o q)⟩
  exact h p D _ _ iO fO ⟨fun σ' δ' g' H' e i' f' q => d.nx σ' δ' g'.1 H' (back e) i'.1 (f'.sub fun a n _ => .inl n) q, fun v s g' H' e i' r q => d.rt v s g'.1 H' (back e) i'.1 (r.sub fun a n _ => .inl n) q,
    fun σ' δ' g' H' e i' f' q => d.bk σ' δ' g'.1 H' (back e) i'.1 (f'.sub fun a n _ => .inl n) q, fun σ' δ' g' H' e i' f' q => d.ct σ' δ' g'.1 H' (back e) i'.1 (f'.sub fun a n _ => .inl n) q⟩
/-- the list grows -/
theorem ev_ownApp {p : Addr} {δ : List Sl} {g : (W.own K p).G} {tx : TE} {P1 : Sl → (W.own K p).G → Prop} {P : Sl → (W.own K p).G → Prop} (hx : ∀ g, EvV K (W.own K p) tx δ g (.ref p)) (h : EvS K (W.own K p) te δ g P1) (k : ∀ s g1, P1 s g1 → ∃ d, s = .dat d ∧ nol d = true ∧ g1.2.length < sizeLine ∧ P (.dat .none) (g1.1, g1.2 ++ [d])) : EvS K (W.own K p) (tBM K "list" rAppend tx (tCons te tNil)) δ g P := fun σ H i f Q q =>
  hx g σ H i f _ fun v s g1 H1 e1 i1 r1 ⟨a1, b1⟩ => by
    subst a1; subst b1
    cases (show v = V.ref p from r1)
    refine ⟨?_, h σ H1 i1 (f.stp i e1) _ fun v2 s2 g2 H2 e2 i2 r2 p2 => ?_⟩
    · obtain ⟨_, _, _, xs, c, _⟩ := i1
      exact .inl ⟨rfl, xs, SqL.of c⟩
    obtain ⟨d, rfl, dn, hl, p3⟩ := k s2 g2 p2
    obtain ⟨j1, j2, j3, xs, c, dd⟩ := id i2
    refine ⟨p, xs, v2, rfl, rfl, c, by rw [dd.length]; exact hl, ?_⟩
    have hnt : ∀ a o, H2 a = some o → ¬ Mu (some o) → upd H2 p (.lst (xs ++ [v2])) a = some o := fun a o qa m => by
      rw [upd_ne (fun z => by rw [z, c] at qa; cases qa; exact m trivial)]
      exact qa
    refine q .non (.dat .none) (g2.1, g2.2 ++ [d]) _ ((e1.trans e2).trans ⟨fun a o m qa => ?_, fun a o qa => ?_⟩) ⟨W.loc j1 (fun a n => upd_ne fun z => j2 (z ▸ n)) hnt, j2, ?_, _, upd_same, (DaAll.nolk hnt _ _ j3 dd).append (.one (Da.nolk hnt _ _ dn r2))⟩ Da.non p3
    · rw [upd_ne fun z => m (.inr z)]
      exact qa
    · by_cases e : a = p
      · rw [e]; exact ⟨_, upd_same⟩
      · exact ⟨o, by rw [upd_ne e]; exact qa⟩
    · rw [nols_append, j3]
      simp [nols, dn]
theorem rc_ownTup {p : Addr} {g : (W.own K p).G} (hz : g.2.length ≤ sizeLine) : RcS K (W.own K p) (rTupC K) [.val (.ref p)] g (is (.dat (.tuple g.2)) g) := fun vs H i rs Q q => by
  cases rs with
  | cons r1 rr =>
    cases rr
    cases (show _ = V.ref p from r1)
    obtain ⟨j1, j2, j3, xs, c, dd⟩ := id i
    exact ⟨_, _, rfl, .inl ⟨SqL.of c, fun l hp => q (.ref l) (.dat (.tuple g.2)) g _ (Stp.same (Same.new hp)) ((W.own K p).mono i (Same.new hp)) (new_tup i hp (by rw [dd.length]; exact hz) dd) ⟨rfl, rfl⟩⟩⟩
end

/-! ### a bridge -/
abbrev flB (sa la ua : Addr) : List (Str × V) := [("free", .ref sa), ("lower_steps", .ref la), ("upper_steps", .ref ua)]
structure ClB (K : PySem.W.Frag) (C : Addr) : Prop where
  cl : Cls K C
  free : NoAttr K C "free"
  lower_steps : NoAttr K C "lower_steps"
  upper_steps : NoAttr K C "upper_steps"
theorem flB_no {sa la ua : Addr} {m : Str} (h1 : ¬ m = "free") (h2 : ¬ m = "lower_steps") (h3 : ¬ m = "upper_steps") : (flB sa la ua).lookup m = none := by
  rw [flB, lk_put, if_neg h1, lk_put, if_neg h2, lk_put, if_neg h3]
  rfl
structure BI (CB CF : Addr) where
  f : FI CF
  ba : Addr
  dxb : Addr
  ad : Bool → Addr
  ob : (ba, HO.ins CB dxb (flB f.sa (ad false) (ad true))) ∈ f.x.obs
  hA : ∀ u, f.x.N (ad u)
  hK : ∀ u, ad u ≠ f.x.kd
  hne : ad false ≠ ad true
  hO : ∀ u, ∀ p ∈ f.x.obs, p.1 ≠ ad u
def sel (u : Bool) (s : S2) : List St3 := if u then s.2 else s.1
def push (u : Bool) (x : St3) (s : S2) : S2 := if u then (s.1, s.2 ++ [x]) else (s.1 ++ [x], s.2)
theorem sel_push {u : Bool} {x : St3} {s : S2} : sel u (push u x s) = sel u s ++ [x] := by cases u <;> rfl
theorem sel_push_ne {u u' : Bool} {x : St3} {s : S2} (h : u' ≠ u) : sel u' (push u x s) = sel u' s := by cases u <;> cases u' <;> first | rfl | exact absurd rfl h
theorem WM_nil {x : MI} {g : List Str} {H : Hp} (i : (WM x).I g H) : (WM x).I ([] : List Str) H := by
  obtain ⟨a, b, kvs, c, d, _⟩ := i
  exact ⟨a, b, kvs, c, d, fun k hk => by cases hk⟩
theorem BI.ad_ne {CB CF : Addr} (y : BI CB CF) {u u' : Bool} (h : u' ≠ u) : y.ad u' ≠ y.ad u := by
  cases u <;> cases u'
  · exact absurd rfl h
  · exact fun e => y.hne e.symm
  · exact fun e => y.hne e
  · exact absurd rfl h
def WB (K : PySem.W.Frag) {CB CF : Addr} (y : BI CB CF) : Wd where
  G := S2
  M := fun a => a = y.f.x.kd ∨ ∃ u, a = y.ad u
  N := y.f.x.N
  I := fun g H => (WM y.f.x).I ([] : List Str) H ∧ ∀ u, ∃ xs, H (y.ad u) = some (.lst xs) ∧ DaAll K y.f.x.N H xs ((sel u g).map St3.d) ∧ nols ((sel u g).map St3.d) = true
  sub := fun a h => h.elim (fun e => e ▸ y.f.x.hk) fun ⟨u, e⟩ => e ▸ y.hA u
  loc := fun {g H H'} i k t => ⟨(WM y.f.x).loc i.1 k t, fun u => by
    obtain ⟨xs, a, b, c⟩ := i.2 u
    exact ⟨xs, (k _ (y.hA u)).trans a, DaAll.nolk t _ _ c b, c⟩⟩
  trk := fun i n => i.1.1 _ n
  mu := fun {g H a} i e => by
    rcases e with e | ⟨u, e⟩
    · exact (WM y.f.x).mu i.1 e
    · obtain ⟨xs, a, _⟩ := i.2 u
      subst e
      rw [a]
      trivial
section
variable {K : PySem.W.Frag} {CB CF : Addr}
/-- the bridge's world within a world -/
structure Emb (K : PySem.W.Frag) {CB CF : Addr} (y : BI CB CF) (W : Wd) where
  st : W.G → S2
  put : W.G → S2 → W.G
  hN : (WB K y).N = W.N
  hM : ∀ a, (WB K y).M a → W.M a
  hi : ∀ g H, W.I g H → (WB K y).I (st g) H
  ho : ∀ g s' H H', W.I g H → Stp (WB K y) H H' → (WB K y).I s' H' → W.I (put g s') H'
def Emb.self (y : BI CB CF) : Emb K y (WB K y) := ⟨fun g => g, fun _ s => s, rfl, fun _ m => m, fun _ _ i => i, fun _ _ _ _ _ _ i => i⟩
def MI.own (x : MI) (p : Addr) : MI := { x with N := fun a => x.N a ∨ a = p, hk := .inl x.hk, ho := fun q h => .inl (x.ho q h) }
def FI.own (f : FI CF) (p : Addr) : FI CF := { f with x := f.x.own p, ob := f.ob }
def BI.own (y : BI CB CF) (p : Addr) : BI CB CF := { y with f := y.f.own p, ob := y.ob, hA := fun u => .inl (y.hA u), hK := y.hK, hO := y.hO }
theorem das_sub {N N' : Addr → Prop} {H : Hp} (h : ∀ a, N' a → (∃ o, H a = some o) → N a) {ds : List PyData} {vs : List V} (d : DaAll K N H vs ds) : DaAll K N' H vs ds := DaAll.keep (fun _ _ _ q => q) (fun _ _ q _ => q) h ds vs d
theorem das_nol {N N' : Addr → Prop} {H : Hp} {ds : List PyData} {vs : List V} (n : nols ds = true) (d : DaAll K N H vs ds) : DaAll K N' H vs ds := DaAll.nolk (fun _ _ q _ => q) ds vs n d
def Emb.own (y : BI CB CF) (p : Addr) : Emb K (y.own p) ((WB K y).own K p) where
  st := fun g => g.1
  put := fun g s => (s, g.2)
  hN := rfl
  hM := fun a m => .inl m
  hi := fun g H i => by
    obtain ⟨⟨⟨a, b, kvs, c, d, _⟩, i1⟩, i2, i3, xs, i4, i5⟩ := i
    refine ⟨⟨fun q n => ?_, b, kvs, c, d, fun k hk => by cases hk⟩, fun u => ?_⟩
    · rcases n with n | n
      · exact a q n
      · subst n; exact ⟨_, i4⟩
    · obtain ⟨ys, j1, j2, j3⟩ := i1 u
      exact ⟨ys, j1, das_nol j3 j2, j3⟩
  ho := fun g s' H H' i e i' => by
    obtain ⟨⟨⟨a, b, kvs, c, d, _⟩, i1⟩, i2, i3, xs, i4, i5⟩ := i
    obtain ⟨⟨a', b', kvs', c', d', _⟩, i1'⟩ := i'
    have hp : H' p = some (.lst xs) := e.keep p _ (fun m => by
      rcases m with m | ⟨u, m⟩
      · exact i2 (by rw [m]; exact y.f.x.hk)
      · exact i2 (by rw [m]; exact y.hA u)) i4
    refine ⟨⟨⟨fun q n => a' q (.inl n), b', kvs', c', d', fun k hk => by cases hk⟩, fun u => ?_⟩, i2, i3, xs, hp, ?_⟩
    · obtain ⟨ys, j1, j2, j3⟩ := i1' u
      exact ⟨ys, j1, das_nol j3 j2, j3⟩
    · refine DaAll.nolk (fun q o h m => e.keep q o (fun z => ?_) h) _ _ i3 i5
      rcases z with z | ⟨u, z⟩
      · have : q = y.f.x.kd := z
        subst this
        rw [c] at h
        cases h
        exact m trivial
      · have : q = y.ad u := z
        subst this
        obtain ⟨ys, j1, _⟩ := i1 u
        rw [j1] at h
        cases h
        exact m trivial
theorem bself_at {y : BI CB CF} {g : (WB K y).G} {H : Hp} (i : (WB K y).I g H) : H y.ba = some (.ins CB y.dxb (flB y.f.sa (y.ad false) (y.ad true))) := i.1.2.1 _ y.ob
theorem Emb.at_ {y : BI CB CF} {W : Wd} (e : Emb K y W) {g : W.G} {H : Hp} (i : W.I g H) : H y.ba = some (.ins CB y.dxb (flB y.f.sa (y.ad false) (y.ad true))) := bself_at (e.hi g H i)
/-! the promises -/
abbrev sp_noted (K : PySem.W.Frag) (CB CF : Addr) : Sp := spG K (α := BI CB CF × Bool × St3 × S2) (fun x => WB K x.1) (fun x => x.2.2.2) (fun x => [.val (.ref x.1.ba), .val (.ref (x.1.ad x.2.1)), .dat x.2.2.1.l, .dat x.2.2.1.r, .dat x.2.2.1.why])
  (fun x => nol x.2.2.1.d = true ∧ (sel x.2.1 x.2.2.2).length ≤ 100000) (fun x s g' => s = .dat (.int ((sel x.2.1 x.2.2.2).length : Nat)) ∧ g' = push x.2.1 x.2.2.1 x.2.2.2)
abbrev sp_linked (K : PySem.W.Frag) (CB CF : Addr) : Sp := spG K (α := BI CB CF × Bool × (PyData × PyData × Nat × Nat) × S2) (fun x => WB K x.1) (fun x => x.2.2.2) (fun x => [.val (.ref x.1.ba), .val (.ref (x.1.ad x.2.1)), .dat x.2.2.1.1, .dat x.2.2.1.2.1, .dat (.int (x.2.2.1.2.2.1 : Nat)), .dat (.int (x.2.2.1.2.2.2 : Nat))])
  (fun x => nol x.2.2.1.1 = true ∧ nol x.2.2.1.2.1 = true ∧ (sel x.2.1 x.2.2.2).length ≤ 100000) (fun x s g' => s = .dat (.int ((sel x.2.1 x.2.2.2).length : Nat)) ∧ g' = push x.2.1 ⟨x.2.2.1.1, x.2.2.1.2.1, wChain x.2.2.1.2.2.1 x.2.2.1.2.2.2⟩ x.2.2.2)
section
variable {y : BI CB CF} {W : Wd} {g : W.G} {P : Sl → W.G → Prop} {E : XK}
theorem rc_noted (e : Emb K y W) (u : Bool) {l r why : PyData} (hn : nol (St3.d ⟨l, r, why⟩) = true) (hl : (sel u (e.st g)).length ≤ 100000) (k : P (.dat (.int ((sel u (e.st g)).length : Nat))) (e.put g (push u ⟨l, r, why⟩ (e.st g)))) : RcS K W (fun vs H Q => sp_noted K CB CF vs H Q E) [.val (.ref y.ba), .val (.ref (y.ad u)), .dat l, .dat r, .dat why] g P :=
  rc_spG (α := BI CB CF × Bool × St3 × S2) (y, u, ⟨l, r, why⟩, e.st g) rfl ⟨hn, hl⟩ e.hN e.hM (fun H i => e.hi g H i) fun s g' H H' i e' i' ⟨a, b⟩ => ⟨_, e.ho g g' H H' i e' i', by rw [a, b]; exact k⟩
theorem rc_linked (e : Emb K y W) (u : Bool) {l r : PyData} {i j : Nat} (hn : nol l = true) (hn' : nol r = true) (hl : (sel u (e.st g)).length ≤ 100000) (k : P (.dat (.int ((sel u (e.st g)).length : Nat))) (e.put g (push u ⟨l, r, wChain i j⟩ (e.st g)))) : RcS K W (fun vs H Q => sp_linked K CB CF vs H Q E) [.val (.ref y.ba), .val (.ref (y.ad u)), .dat l, .dat r, .dat (.int (i : Nat)), .dat (.int (j : Nat))] g P :=
  rc_spG (α := BI CB CF × Bool × (PyData × PyData × Nat × Nat) × S2) (y, u, (l, r, i, j), e.st g) rfl ⟨hn, hn', hl⟩ e.hN e.hM (fun H i => e.hi g H i) fun s g' H H' i e' i' ⟨a, b⟩ => ⟨_, e.ho g g' H H' i e' i', by rw [a, b]; exact k⟩
end
theorem da_push {N : Addr → Prop} {H : Hp} {u : Bool} {x : St3} {s : S2} {xs : List V} {v : V} (h : DaAll K N H xs ((sel u s).map St3.d)) (hx : Da K N H v x.d) (n : nols ((sel u s).map St3.d) = true) (nx : nol x.d = true) : DaAll K N H (xs ++ [v]) ((sel u (push u x s)).map St3.d) ∧ nols ((sel u (push u x s)).map St3.d) = true := by
  rw [sel_push, List.map_append]
  refine ⟨h.append (.one hx), ?_⟩
  rw [nols_append, n]
  simp [nols, nx]
theorem da_pushN {N : Addr → Prop} {H : Hp} {u u' : Bool} {x : St3} {s : S2} {xs : List V} (e : u' ≠ u) (h : DaAll K N H xs ((sel u' s).map St3.d)) (n : nols ((sel u' s).map St3.d) = true) : DaAll K N H xs ((sel u' (push u x s)).map St3.d) ∧ nols ((sel u' (push u x s)).map St3.d) = true := by
  rw [sel_push_ne e]
  exact ⟨h, n⟩
theorem ev_push {y : BI CB CF} {u : Bool} {δ : List Sl} {g : (WB K y).G} {tx te : TE} {x : St3} (hx : EvV K (WB K y) tx δ g (.ref (y.ad u))) (h : EvD K (WB K y) te δ g x.d) (hn : nol x.d = true) (hl : (sel u g).length ≤ 100000) : EvS K (WB K y) (tBM K "list" rAppend tx (tCons te tNil)) δ g (fun s g' => g' = push u x g) := fun σ H i f Q q =>
  hx σ H i f _ fun v s g1 H1 e1 i1 r1 ⟨a1, b1⟩ => by
    subst a1; subst b1
    cases (show v = V.ref (y.ad u) from r1)
    refine ⟨?_, h σ H1 i1 (f.stp i e1) _ fun v2 s2 g2 H2 e2 i2 r2 ⟨a2, b2⟩ => ?_⟩
    · obtain ⟨xs, c, _⟩ := i1.2 u
      exact .inl ⟨rfl, xs, SqL.of c⟩
    subst a2; subst b2
    obtain ⟨xs, c, dd, nn⟩ := i2.2 u
    refine ⟨_, xs, v2, rfl, rfl, c, ?_, ?_⟩
    · rw [dd.length, List.length_map]
      exact Nat.lt_of_le_of_lt hl (by decide)
    have hnt : ∀ a o, H2 a = some o → ¬ Mu (some o) → upd H2 (y.ad u) (.lst (xs ++ [v2])) a = some o := fun a o qa m => by
      rw [upd_ne (fun z => by rw [z, c] at qa; cases qa; exact m trivial)]
      exact qa
    obtain ⟨j1, j2, kvs, j3, j4, j5⟩ := i2.1
    refine q .non (.dat .none) (push u x _) _ ((e1.trans e2).trans ⟨fun a o m qa => ?_, fun a o qa => ?_⟩) ⟨⟨fun a n => ?_, fun p hp => ?_, kvs, ?_, j4, j5⟩, fun u' => ?_⟩ Da.non rfl
    · rw [upd_ne fun z => m (.inr ⟨u, z⟩)]
      exact qa
    · by_cases e : a = y.ad u
      · rw [e]; exact ⟨_, upd_same⟩
      · exact ⟨o, by rw [upd_ne e]; exact qa⟩
    · by_cases e : a = y.ad u
      · rw [e]; exact ⟨_, upd_same⟩
      · rw [upd_ne e]; exact j1 a n
    · rw [upd_ne (y.hO u p hp)]
      exact j2 p hp
    · rw [upd_ne fun z => y.hK u z.symm]
      exact j3
    · by_cases e : u' = u
      · subst e
        exact ⟨_, upd_same, da_push (DaAll.nolk hnt _ _ nn dd) (Da.nolk hnt _ _ hn r2) nn hn⟩
      · obtain ⟨ys, k1, k2, k3⟩ := i2.2 u'
        exact ⟨ys, by rw [upd_ne (y.ad_ne e)]; exact k1, da_pushN e (DaAll.nolk hnt _ _ k3 k2) k3⟩
theorem rc_lenB {y : BI CB CF} {u : Bool} {g : (WB K y).G} : RcS K (WB K y) (rLenC K) [.val (.ref (y.ad u))] g (is (.dat (.int ((sel u g).length : Nat))) g) := RcS.pure1 fun v1 H i r1 Q q => by
  cases (show v1 = V.ref (y.ad u) from r1)
  obtain ⟨xs, c, dd, nn⟩ := i.2 u
  exact ⟨_, _, rfl, .inl ⟨_, SqL.of c, by rw [dd.length, List.length_map]⟩, q _ (Da.int _)⟩
end
section
variable {P : Program} {w : World} {K : PySem.W.Frag} {mg : Str → Option Value} {base : Heap} {CB CF : Addr}
theorem ok_noted (Bt : Blt mg) (M_noted : Mdef K CB "noted" "Bridge.noted" s_Bridge_noted p_Bridge_noted) : FnOk P w K mg base CX0 1 M_noted.f M_noted.fd p_Bridge_noted (sp_noted K CB CF) := by
  have B := Bt
  refine fn_okG (α := BI CB CF × Bool × St3 × S2) M_noted.fn sc_Bridge_noted (fun _ => rfl) fun cdv A outer s H E hr y hx => ⟨_, (pss_cons (ps_expr (pe_bm PySem.F.plainAttrs_list PySem.F.slot_list_append PySem.F.type_list_append mt_append (pv 1) (pa_cons (pe_tup (pa_cons (pv 2) (pa_cons (pv 3) (pa_cons (pv 4) pa_nil)))) pa_nil)))
  (pss_one (ps_ret (pe_op op_sub (pe_callB (w_len K) (by rfl) B.len bt_len (pa_cons (pv 1) pa_nil)) pe_int)))), ?_⟩
  obtain ⟨y, u, ⟨l, r, why⟩, st⟩ := y
  obtain ⟨hn, hl⟩ := hx
  dsimp only at hn hl ⊢
  refine x_seq (x_drop (EvS.imp (ev_push (u := u) (x := ⟨l, r, why⟩) (ev_var rfl) (ev_tup (ds := [l, r, why]) (av_cons (ev_var rfl) (av_two (ev_var rfl) (ev_var rfl)))) hn hl) fun s g' e => ?_))
  subst e
  refine x_ret (EvS.to (EvS.asD (ev_opD (ev_cb1 (ev_var rfl) rc_lenB) ev_int rv_sub) ?_) ⟨rfl, rfl⟩)
  rw [sel_push, List.length_append, List.length_cons, List.length_nil]
  congr 1
  omega
theorem ok_linked (Bt : Blt mg) (CBl : ClB K CB) (M_noted : Mdef K CB "noted" "Bridge.noted" s_Bridge_noted p_Bridge_noted) (M_linked : Mdef K CB "linked" "Bridge.linked" s_Bridge_linked p_Bridge_linked) : FnOk P w K mg base CX0 2 M_linked.f M_linked.fd p_Bridge_linked (sp_linked K CB CF) := by
  have B := Bt
  have G_noted : FnOk P w K mg base CX0 1 M_noted.f M_noted.fd p_Bridge_noted (sp_noted K CB CF) := ok_noted Bt M_noted
  refine fn_okG (α := BI CB CF × Bool × (PyData × PyData × Nat × Nat) × S2) M_linked.fn sc_Bridge_linked (fun _ => rfl) fun cdv A outer s H E hr y hx => ⟨_, (pss_one (ps_ret (pe_meth (pv 0) CBl.cl M_noted.me G_noted (hr.mono (by omega)) M_noted.b .nil pass0 (pa_cons (pv 1) (pa_cons (pv 2) (pa_cons (pv 3) (pa_cons (pe_tup (pa_cons pe_str (pa_cons (pv 4) (pa_cons (pv 5) pa_nil)))) pa_nil))))))), ?_⟩
  obtain ⟨y, u, ⟨l, r, i, j⟩, st⟩ := y
  obtain ⟨hn, hn', hl⟩ := hx
  dsimp only at hn hn' hl ⊢
  have nome : ∀ (g : (WB K y).G) H, (WB K y).I g H → ∃ dx fs, H y.ba = some (.ins CB dx fs) ∧ fs.lookup ("noted" : Str) = none := fun g H i => ⟨_, _, bself_at i, flB_no (by decide +kernel) (by decide +kernel) (by decide +kernel)⟩
  exact x_ret (ev_meth (ev_var rfl) (nome _) (av_cons (ev_var rfl) (av_cons (ev_var rfl) (av_two (ev_var rfl) (ev_tup (ds := [.str "chain", .int (i : Nat), .int (j : Nat)]) (av_cons ev_str (av_two (ev_var rfl) (ev_var rfl)))))))
    (rc_noted (Emb.self y) u (by simp [St3.d, nol, nols, hn, hn']) hl ⟨rfl, rfl⟩))
end
end Z
/-! found and its helpers -/
namespace Z
open PySem L2
theorem FOk.mono {l r : PyData} {d d' : Nat} {s : S2} {o : Fo × S2} (h : FOk l r d s o) (hd : d ≤ d') : FOk l r d' s o := ⟨isT_mono h.tT hd, h.lvt, h.sgl, h.sgr, h.x1, h.x2, h.d1, h.d2, h.a1, h.a2, h.l1, h.l2⟩
/-- what found asks -/
structure FPre (n : Nat) (x : MI) (l r : PyData) (s : S2) : Prop where
  ask : AskB n (x, l, r)
  n10 : n ≤ 10
  b : B l r = true
  d1 : Dv s.1
  d2 : Dv s.2
  len : ∀ u, (sel u s).length + 6 * (lv l * lv r) ≤ 100000
theorem FPre.ok {n : Nat} {x : MI} {l r : PyData} {s : S2} (h : FPre n x l r s) : FOk l r 9 s (fnd n l r s) := by
  obtain ⟨a, b, h1, h2, hab⟩ := h.ask.ab
  have := h.n10
  exact (fnd_ok n h1 h2 hab (by omega) h.b h.d1 h.d2).mono (by omega)
theorem sum_take {f : PyData → Nat} : ∀ {ps : List PyData} {i : Nat} {p : PyData}, ps[i]? = some p → ((ps.take i).map f).sum + f p ≤ (ps.map f).sum
  | [], i, p, h => by cases h
  | q :: ps, 0, p, h => by
    cases h
    rw [List.map_cons, List.sum_cons]
    show 0 + _ ≤ _
    omega
  | q :: ps, i + 1, p, h => by
    have := sum_take (f := f) (ps := ps) (i := i) (p := p) (by simpa using h)
    rw [List.take_succ_cons, List.map_cons, List.map_cons, List.sum_cons, List.sum_cons]
    omega
theorem opIs_lv {o : Str} {d : PyData} (h : opIs o d = true) : lv d = ((partsD d).map lv).sum := by
  have e := opIs_node h
  conv => lhs; rw [e]
  rw [lv_node]
theorem FPre.left {n : Nat} {x : MI} {l r : PyData} {s : S2} (h : FPre (n + 1) x l r s) (q0 : PyData.eqv l r = false) (q1 : opIs BAR l = true) {i : Nat} {p : PyData} (hi : (partsD l)[i]? = some p) : FPre n x p r (mapS (fun p => fnd n p r) ((partsD l).take i) s).2 := by
  obtain ⟨a, b, h1, h2, hab⟩ := h.ask.ab
  have h10 := h.n10
  have hB := h.b
  rw [B_eq h1 h2 (by omega)] at hB
  unfold Bstep at hB
  rw [if_neg (by rw [q0]; decide), if_pos q1] at hB
  have hall := List.all_eq_true.mp hB
  obtain ⟨k1, k2, k3, k4, k5, k6, k7⟩ := mapS_ok (L := id) (R := fun _ => r) (d := 9) (f := fun p => fnd n p r) (ps := (partsD l).take i) (s := s) (fun p hp s d1 d2 => by
    have hp' := List.mem_of_mem_take hp
    obtain ⟨m, e, hm⟩ := parts_T h1 hp'
    exact (fnd_ok n hm h2 (by omega) (by omega) (hall p hp') d1 d2).mono (by omega)) h.d1 h.d2
  have hs : (((partsD l).take i).map fun p => lv (id p) * lv r).sum + lv p * lv r ≤ lv l * lv r := by
    have := sum_take (f := fun p => lv p * lv r) hi
    rw [sum_mulr (ps := partsD l), ← opIs_lv q1] at this
    exact this
  refine ⟨h.ask.left (List.mem_of_getElem? hi), by omega, hall p (List.mem_of_getElem? hi), k3, k4, fun u => ?_⟩
  have := h.len u
  cases u with
  | false =>
    show (mapS _ _ s).2.1.length + _ ≤ _
    have h3 : s.1.length + 6 * (lv l * lv r) ≤ 100000 := this
    omega
  | true =>
    show (mapS _ _ s).2.2.length + _ ≤ _
    have h3 : s.2.length + 6 * (lv l * lv r) ≤ 100000 := this
    omega
theorem FPre.right {n : Nat} {x : MI} {l r : PyData} {s : S2} (h : FPre (n + 1) x l r s) (q0 : PyData.eqv l r = false) (q1 : opIs BAR l = false) (q2 : opIs AMP r = true) {i : Nat} {p : PyData} (hi : (partsD r)[i]? = some p) : FPre n x l p (mapS (fun p => fnd n l p) ((partsD r).take i) s).2 := by
  obtain ⟨a, b, h1, h2, hab⟩ := h.ask.ab
  have h10 := h.n10
  have hB := h.b
  rw [B_eq h1 h2 (by omega)] at hB
  unfold Bstep at hB
  rw [if_neg (by rw [q0]; decide), if_neg (by rw [q1]; decide), if_pos q2] at hB
  have hall := List.all_eq_true.mp hB
  obtain ⟨k1, k2, k3, k4, k5, k6, k7⟩ := mapS_ok (L := fun _ => l) (R := id) (d := 9) (f := fun p => fnd n l p) (ps := (partsD r).take i) (s := s) (fun p hp s d1 d2 => by
    have hp' := List.mem_of_mem_take hp
    obtain ⟨m, e, hm⟩ := parts_T h2 hp'
    exact (fnd_ok n h1 hm (by omega) (by omega) (hall p hp') d1 d2).mono (by omega)) h.d1 h.d2
  have hs : (((partsD r).take i).map fun p => lv l * lv (id p)).sum + lv l * lv p ≤ lv l * lv r := by
    have := sum_take (f := fun p => lv l * lv p) hi
    rw [sum_mul (ps := partsD r), ← opIs_lv q2] at this
    exact this
  refine ⟨h.ask.right (List.mem_of_getElem? hi), by omega, hall p (List.mem_of_getElem? hi), k3, k4, fun u => ?_⟩
  have := h.len u
  cases u with
  | false =>
    show (mapS _ _ s).2.1.length + _ ≤ _
    have h3 : s.1.length + 6 * (lv l * lv r) ≤ 100000 := this
    omega
  | true =>
    show (mapS _ _ s).2.2.length + _ ≤ _
    have h3 : s.2.length + 6 * (lv l * lv r) ≤ 100000 := this
    omega
/-- after all the rows -/
theorem FPre.rowsL {n : Nat} {x : MI} {l r : PyData} {s : S2} (h : FPre (n + 1) x l r s) (q0 : PyData.eqv l r = false) (q1 : opIs BAR l = true) :
    (∀ f ∈ (mapS (fun p => fnd n p r) (partsD l) s).1, isT 9 f.t = true) ∧ ∀ u, (sel u (mapS (fun p => fnd n p r) (partsD l) s).2).length + 5 * (partsD l).length ≤ 100000 := by
  obtain ⟨a, b, h1, h2, hab⟩ := h.ask.ab
  have h10 := h.n10
  have hB := h.b
  rw [B_eq h1 h2 (by omega)] at hB
  unfold Bstep at hB
  rw [if_neg (by rw [q0]; decide), if_pos q1] at hB
  have hall := List.all_eq_true.mp hB
  obtain ⟨k1, k2, k3, k4, k5, k6, k7⟩ := mapS_ok (L := id) (R := fun _ => r) (d := 9) (f := fun p => fnd n p r) (ps := partsD l) (s := s) (fun p hp s d1 d2 => by
    obtain ⟨m, e, hm⟩ := parts_T h1 hp
    exact (fnd_ok n hm h2 (by omega) (by omega) (hall p hp) d1 d2).mono (by omega)) h.d1 h.d2
  have hs : ((partsD l).map fun p => lv (id p) * lv r).sum = lv l * lv r := by
    rw [opIs_lv q1]
    exact sum_mulr (f := lv)
  rw [hs] at k6 k7
  refine ⟨fun f hf => (k5.mem hf).elim fun p q => q.2.tT, fun u => ?_⟩
  have := h.len u
  cases u with
  | false =>
    show (mapS _ _ s).2.1.length + _ ≤ _
    have h3 : s.1.length + 6 * (lv l * lv r) ≤ 100000 := this
    omega
  | true =>
    show (mapS _ _ s).2.2.length + _ ≤ _
    have h3 : s.2.length + 6 * (lv l * lv r) ≤ 100000 := this
    omega
theorem FPre.rowsR {n : Nat} {x : MI} {l r : PyData} {s : S2} (h : FPre (n + 1) x l r s) (q0 : PyData.eqv l r = false) (q1 : opIs BAR l = false) (q2 : opIs AMP r = true) :
    (∀ f ∈ (mapS (fun p => fnd n l p) (partsD r) s).1, isT 9 f.t = true) ∧ ∀ u, (sel u (mapS (fun p => fnd n l p) (partsD r) s).2).length + 5 * (partsD r).length ≤ 100000 := by
  obtain ⟨a, b, h1, h2, hab⟩ := h.ask.ab
  have h10 := h.n10
  have hB := h.b
  rw [B_eq h1 h2 (by omega)] at hB
  unfold Bstep at hB
  rw [if_neg (by rw [q0]; decide), if_neg (by rw [q1]; decide), if_pos q2] at hB
  have hall := List.all_eq_true.mp hB
  obtain ⟨k1, k2, k3, k4, k5, k6, k7⟩ := mapS_ok (L := fun _ => l) (R := id) (d := 9) (f := fun p => fnd n l p) (ps := partsD r) (s := s) (fun p hp s d1 d2 => by
    obtain ⟨m, e, hm⟩ := parts_T h2 hp
    exact (fnd_ok n h1 hm (by omega) (by omega) (hall p hp) d1 d2).mono (by omega)) h.d1 h.d2
  have hs : ((partsD r).map fun p => lv l * lv (id p)).sum = lv l * lv r := by
    rw [opIs_lv q2]
    exact sum_mul (f := lv)
  rw [hs] at k6 k7
  refine ⟨fun f hf => (k5.mem hf).elim fun p q => q.2.tT, fun u => ?_⟩
  have := h.len u
  cases u with
  | false =>
    show (mapS _ _ s).2.1.length + _ ≤ _
    have h3 : s.1.length + 6 * (lv l * lv r) ≤ 100000 := this
    omega
  | true =>
    show (mapS _ _ s).2.2.length + _ ≤ _
    have h3 : s.2.length + 6 * (lv l * lv r) ≤ 100000 := this
    omega
/-- through a part: which -/
theorem rsn_right {l r p : PyData} (q0 : PyData.eqv l r = false) (q1 : opIs BAR l = false) (q2 : opIs AMP r = false) (h : rsn l r = some (.right p)) : p ∈ partsD r ∧ B l p = true := by
  unfold rsn at h
  rw [if_neg (by rw [q0]; decide), if_neg (by rw [q1]; decide), if_neg (by rw [q2]; decide)] at h
  by_cases q3 : opIs BAR r = true
  · rw [if_pos q3] at h
    cases hf : (partsD r).find? (fun p => B l p) with
    | some p' =>
      rw [hf] at h
      cases h
      exact ⟨List.mem_of_find?_eq_some hf, List.find?_some (p := fun p => B l p) hf⟩
    | none =>
      rw [hf] at h
      dsimp only at h
      split at h <;> cases h
  · rw [if_neg q3] at h
    dsimp only at h
    split at h <;> cases h
theorem rsn_left {l r p : PyData} (q0 : PyData.eqv l r = false) (q1 : opIs BAR l = false) (q2 : opIs AMP r = false) (h : rsn l r = some (.left p)) : p ∈ partsD l ∧ B p r = true := by
  unfold rsn at h
  rw [if_neg (by rw [q0]; decide), if_neg (by rw [q1]; decide), if_neg (by rw [q2]; decide)] at h
  generalize (if opIs BAR r = true then (partsD r).find? (fun p => B l p) else none) = o at h
  cases o with
  | some p' => cases h
  | none =>
    by_cases q3 : opIs AMP l = true
    · rw [if_pos q3] at h
      cases hf : (partsD l).find? (fun p => B p r) with
      | some p' =>
        rw [hf] at h
        cases h
        exact ⟨List.mem_of_find?_eq_some hf, List.find?_some (p := fun p => B p r) hf⟩
      | none => rw [hf] at h; cases h
    · rw [if_neg q3] at h
      cases h
theorem rsn_which {l r : PyData} (q0 : PyData.eqv l r = false) (q1 : opIs BAR l = false) (q2 : opIs AMP r = false) (h : (rsn l r).isSome = true) : (∃ p, rsn l r = some (.right p)) ∨ ∃ p, rsn l r = some (.left p) := by
  unfold rsn at h ⊢
  rw [if_neg (by rw [q0]; decide), if_neg (by rw [q1]; decide), if_neg (by rw [q2]; decide)] at h ⊢
  split at h
  · exact .inl ⟨_, rfl⟩
  · split at h
    · exact .inr ⟨_, rfl⟩
    · cases h
theorem FPre.thR {n : Nat} {x : MI} {l r p : PyData} {s : S2} (h : FPre (n + 1) x l r s) (hp : p ∈ partsD r) (hb : B l p = true) : FPre n x l p s := by
  refine ⟨h.ask.right hp, Nat.le_of_succ_le h.n10, hb, h.d1, h.d2, fun u => Nat.le_trans ?_ (h.len u)⟩
  have := Nat.mul_le_mul_left (lv l) (part_lt h.ask.tr.1 hp)
  rw [Nat.mul_add] at this
  show _ + 6 * _ ≤ _ + 6 * (lv l * lv r)
  have e : lv l * lv (x, l, r).2.2 = lv l * lv r := rfl
  rw [e] at this
  omega
theorem FPre.thL {n : Nat} {x : MI} {l r p : PyData} {s : S2} (h : FPre (n + 1) x l r s) (hp : p ∈ partsD l) (hb : B p r = true) : FPre n x p r s := by
  refine ⟨h.ask.left hp, Nat.le_of_succ_le h.n10, hb, h.d1, h.d2, fun u => Nat.le_trans ?_ (h.len u)⟩
  have := Nat.mul_le_mul_right (lv r) (part_lt h.ask.tl.1 hp)
  rw [Nat.add_mul] at this
  show _ + 6 * _ ≤ _ + 6 * (lv l * lv r)
  have e : lv (x, l, r).2.1 * lv r = lv l * lv r := rfl
  rw [e] at this
  omega
theorem foldO_len {t : PyData} : ∀ {ys : List (PyData × Fo)} {A : List St3} {is : List Nat}, (ys.foldl (stepO t) (A, is)).1.length = A.length + 2 * ys.length ∧ (ys.foldl (stepO t) (A, is)).2.length = is.length + ys.length
  | [], A, is => ⟨rfl, rfl⟩
  | y :: ys, A, is => by
    obtain ⟨a, b⟩ := foldO_len (t := t) (ys := ys) (A := (stepO t (A, is) y).1) (is := (stepO t (A, is) y).2)
    have e1 : (stepO t (A, is) y).1.length = A.length + 2 := by simp [stepO]
    have e2 : (stepO t (A, is) y).2.length = is.length + 1 := by simp [stepO]
    refine ⟨?_, ?_⟩
    · show (ys.foldl (stepO t) (stepO t (A, is) y)).1.length = _
      rw [a, e1, List.length_cons]; omega
    · show (ys.foldl (stepO t) (stepO t (A, is) y)).2.length = _
      rw [b, e2, List.length_cons]; omega
theorem foldI_len {t : PyData} : ∀ {ys : List (PyData × Fo)} {A : List St3} {is : List Nat}, (ys.foldl (stepI t) (A, is)).1.length = A.length + 2 * ys.length ∧ (ys.foldl (stepI t) (A, is)).2.length = is.length + ys.length
  | [], A, is => ⟨rfl, rfl⟩
  | y :: ys, A, is => by
    obtain ⟨a, b⟩ := foldI_len (t := t) (ys := ys) (A := (stepI t (A, is) y).1) (is := (stepI t (A, is) y).2)
    have e1 : (stepI t (A, is) y).1.length = A.length + 2 := by simp [stepI]
    have e2 : (stepI t (A, is) y).2.length = is.length + 1 := by simp [stepI]
    refine ⟨?_, ?_⟩
    · show (ys.foldl (stepI t) (stepI t (A, is) y)).1.length = _
      rw [a, e1, List.length_cons]; omega
    · show (ys.foldl (stepI t) (stepI t (A, is) y)).2.length = _
      rw [b, e2, List.length_cons]; omega
theorem zip_take {ps : List PyData} {fs : List Fo} {i : Nat} {p : PyData} {f : Fo} (h1 : ps[i]? = some p) (h2 : fs[i]? = some f) : (ps.zip fs).take (i + 1) = (ps.zip fs).take i ++ [(p, f)] := by
  rw [List.take_add_one, (List.getElem?_zip_eq_some (z := (p, f))).mpr ⟨h1, h2⟩]
  rfl
/-! ### readings that move the state -/
section
variable {K : PySem.W.Frag} {W : Wd} {δ : List Sl} {g : W.G} {ta : TE} {tr tA : TA}
theorem av_consG {g1 g2 : W.G} {s : Sl} {ss : List Sl} (h : EvS K W ta δ g (is s g1)) (hr : AvS K W tr δ g1 (isA ss g2)) : AvS K W (tCons ta tr) δ g (isA (s :: ss) g2) :=
  av_consS h fun s' g' ⟨a, b⟩ => by subst a; subst b; exact hr.imp fun ss' g3 ⟨c, d⟩ => ⟨by rw [c], d⟩
theorem ev_tupG {g2 : W.G} {ds : List PyData} (h : AvS K W tA δ g (isA (ds.map .dat) g2)) (hz : ds.length ≤ sizeLine := by simp only [List.length_cons, List.length_nil]; decide) : EvS K W (tTup tA) δ g (is (.dat (.tuple ds)) g2) :=
  ev_tupS h fun ss g1 ⟨a, b⟩ => ⟨ds, a, hz, rfl, b⟩
theorem av_starA {te : TE} {ds es : List PyData} (h : EvD K W te δ g (.list ds)) (hr : AvD K W tr δ g es) : AvD K W (StX.tStar K te tr) δ g (ds ++ es) := by
  have := av_starL h hr
  rw [← List.map_append] at this
  exact this
theorem ev_tupA {ds : List PyData} (h : AvD K W tA δ g ds) (hz : ds.length ≤ sizeLine) : EvD K W (tTup tA) δ g (.tuple ds) := ev_tup h hz
end
def rowT : PyData → PyData
  | .tuple (t :: _) => t
  | _ => .none
def rowI : PyData → PyData
  | .tuple [_, i, _] => i
  | _ => .none
def rowJ : PyData → PyData
  | .tuple [_, _, j] => j
  | _ => .none
theorem rows_T (fs : List Fo) : (fs.map Fo.d).map rowT = fs.map Fo.t := by rw [List.map_map]; rfl
theorem rows_I (fs : List Fo) : (fs.map Fo.d).map rowI = (fs.map Fo.i).map fun i => PyData.int (i : Nat) := by rw [List.map_map, List.map_map]; rfl
theorem rows_J (fs : List Fo) : (fs.map Fo.d).map rowJ = (fs.map Fo.j).map fun i => PyData.int (i : Nat) := by rw [List.map_map, List.map_map]; rfl
theorem Fo.nol {f : Fo} (h : isT 9 f.t = true) : Z.nol f.d = true := by simp [Fo.d, Z.nol, Z.nols, isT_nol h]
theorem nol_ints (is : List Nat) : nols (is.map fun i => PyData.int (i : Nat)) = true := nols_mem.mpr fun d hd => by
  obtain ⟨i, _, rfl⟩ := List.mem_map.mp hd
  rfl
theorem nol_many {k : Str} {l r : PyData} {is : List Nat} (h1 : nol l = true) (h2 : nol r = true) : nol (St3.d ⟨l, r, wMany k is⟩) = true := by simp [St3.d, nol, nols, h1, h2, nol_ints is]
theorem nol_part {l r : PyData} {k : Str} (h1 : nol l = true) (h2 : nol r = true) : nol (St3.d ⟨l, r, .tuple [.str k]⟩) = true := by simp [St3.d, nol, nols, h1, h2]
section
variable {K : PySem.W.Frag} {CB CF : Addr} {y : BI CB CF} {W : Wd} {δ : List Sl} {g : W.G} {E : XK}
theorem rc_bfree {n : Nat} {F : PyData → PyData → PyData} {l r : PyData} {g : (WB K y).G} (h : AskB n (y.f.x, l, r)) : RcS K (WB K y) (fun vs H Q => spF K CF n F vs H Q E) [.val (.ref y.f.sa), .dat l, .dat r] g (is (.dat (F l r)) g) :=
  rc_spG (α := FI CF × PyData × PyData) (y.f, l, r) rfl h rfl (fun _ m => .inl m) (fun H i => i.1) fun s g' H H' i e i' p => ⟨g, ⟨WM_nil i', fun u => by
    obtain ⟨xs, a, b, c⟩ := i.2 u
    refine ⟨xs, e.keep _ _ (fun m => y.hK u m) a, DaAll.nolk (fun q o h m => e.keep q o (fun z => ?_) h) _ _ c b, c⟩
    have : q = y.f.x.kd := z
    subst this
    obtain ⟨_, _, kvs, d, _⟩ := i.1
    rw [d] at h
    cases h
    exact m trivial⟩, p, rfl⟩
theorem ev_lo (CBl : ClB K CB) (e : Emb K y W) (h : δ[0]? = some (.val (.ref y.ba))) : EvV K W (tFld K (tVar 0) "lower_steps") δ g (.ref (y.ad false)) := ev_fld (ev_var h) fun H i =>
  ⟨CB, _, _, e.at_ i, CBl.cl, CBl.lower_steps, by rw [flB, lk_put, if_neg (by decide +kernel), lk_put, if_pos rfl]⟩
theorem ev_up (CBl : ClB K CB) (e : Emb K y W) (h : δ[0]? = some (.val (.ref y.ba))) : EvV K W (tFld K (tVar 0) "upper_steps") δ g (.ref (y.ad true)) := ev_fld (ev_var h) fun H i =>
  ⟨CB, _, _, e.at_ i, CBl.cl, CBl.upper_steps, by rw [flB, lk_put, if_neg (by decide +kernel), lk_put, if_neg (by decide +kernel), lk_put, if_pos rfl]⟩
theorem ev_free (CBl : ClB K CB) (e : Emb K y W) (h : δ[0]? = some (.val (.ref y.ba))) : EvV K W (tFld K (tVar 0) "free") δ g (.ref y.f.sa) := ev_fld (ev_var h) fun H i => ⟨CB, _, _, e.at_ i, CBl.cl, CBl.free, by rw [flB, lk_put, if_pos rfl]⟩
theorem Emb.nome {m : Str} (e : Emb K y W) (h1 : ¬ m = "free" := by decide +kernel) (h2 : ¬ m = "lower_steps" := by decide +kernel) (h3 : ¬ m = "upper_steps" := by decide +kernel) : ∀ H, W.I g H → ∃ dx fs, H y.ba = some (.ins CB dx fs) ∧ fs.lookup m = none := fun H i => ⟨_, _, e.at_ i, flB_no h1 h2 h3⟩
end
/-! the promises -/
abbrev sp_found (K : PySem.W.Frag) (CB CF : Addr) (n : Nat) (F : PyData → PyData → S2 → Fo × S2) (C : PyData → PyData → Prop) : Sp := spG K (α := BI CB CF × PyData × PyData × S2) (fun x => WB K x.1) (fun x => x.2.2.2) (fun x => [.val (.ref x.1.ba), .dat x.2.1, .dat x.2.2.1])
  (fun x => FPre n x.1.f.x x.2.1 x.2.2.1 x.2.2.2 ∧ C x.2.1 x.2.2.1) (fun x s g' => s = .dat (F x.2.1 x.2.2.1 x.2.2.2).1.d ∧ g' = (F x.2.1 x.2.2.1 x.2.2.2).2)
section
variable {K : PySem.W.Frag} {CB CF : Addr} {y : BI CB CF} {E : XK}
theorem rc_found {n : Nat} {F : PyData → PyData → S2 → Fo × S2} {C : PyData → PyData → Prop} {l r : PyData} {g : (WB K y).G} (h : FPre n y.f.x l r g) (c : C l r) : RcS K (WB K y) (fun vs H Q => sp_found K CB CF n F C vs H Q E) [.val (.ref y.ba), .dat l, .dat r] g (is (.dat (F l r g).1.d) (F l r g).2) :=
  rc_spG (α := BI CB CF × PyData × PyData × S2) (y, l, r, g) rfl ⟨h, c⟩ rfl (fun _ m => m) (fun H i => i) fun s g' H H' i e i' p => ⟨g', i', p⟩
end
abbrev cAll (l r : PyData) : Prop := True
abbrev cL (l r : PyData) : Prop := PyData.eqv l r = false ∧ opIs BAR l = true
abbrev cR (l r : PyData) : Prop := PyData.eqv l r = false ∧ opIs BAR l = false ∧ opIs AMP r = true
abbrev cT (l r : PyData) : Prop := PyData.eqv l r = false ∧ opIs BAR l = false ∧ opIs AMP r = false
end Z
namespace Z
open PySem L2
section
variable {P : Program} {w : World} {K : PySem.W.Frag} {mg : Str → Option Value} {base : Heap} {CB CF : Addr}
theorem atl0 {a : PyData} {ps : List PyData} : atD (.list (a :: ps)) 0 = some a := by
  show atI (a :: ps) 0 = some a
  exact atI_nat (j := 0) rfl
structure Brg (K : PySem.W.Frag) (CB CF : Addr) where
  noted : Mdef K CB "noted" "Bridge.noted" s_Bridge_noted p_Bridge_noted
  linked : Mdef K CB "linked" "Bridge.linked" s_Bridge_linked p_Bridge_linked
  found : Mdef K CB "found" "Bridge.found" s_Bridge_found p_Bridge_found
  over_left : Mdef K CB "over_left" "Bridge.over_left" s_Bridge_over_left p_Bridge_over_left
  over_right : Mdef K CB "over_right" "Bridge.over_right" s_Bridge_over_right p_Bridge_over_right
  through_part : Mdef K CB "through_part" "Bridge.through_part" s_Bridge_through_part p_Bridge_through_part
  is_below : Mdef K CF "is_below" "Free.is_below" s_Free_is_below p_Free_is_below
  reason_for : Mdef K CF "reason_for" "Free.reason_for" s_Free_reason_for p_Free_reason_for
def ownG (K : PySem.W.Frag) {CB CF : Addr} (y : BI CB CF) (p : Addr) (A U : List St3) (is : List Nat) : ((WB K y).own K p).G := ((A, U), is.map fun i => PyData.int (i : Nat))
def kO (t : PyData) (A : List St3) (ys : List (PyData × Fo)) : List St3 × List Nat := ys.foldl (stepO t) (A, [])
def kI (t : PyData) (A : List St3) (ys : List (PyData × Fo)) : List St3 × List Nat := ys.foldl (stepI t) (A, [])
theorem kO_len {t : PyData} {A : List St3} {ys : List (PyData × Fo)} : (kO t A ys).1.length = A.length + 2 * ys.length ∧ (kO t A ys).2.length = ys.length := by
  obtain ⟨a, b⟩ := foldO_len (t := t) (ys := ys) (A := A) (is := [])
  exact ⟨a, by unfold kO; rw [b, List.length_nil, Nat.zero_add]⟩
theorem kI_len {t : PyData} {A : List St3} {ys : List (PyData × Fo)} : (kI t A ys).1.length = A.length + 2 * ys.length ∧ (kI t A ys).2.length = ys.length := by
  obtain ⟨a, b⟩ := foldI_len (t := t) (ys := ys) (A := A) (is := [])
  exact ⟨a, by unfold kI; rw [b, List.length_nil, Nat.zero_add]⟩
theorem kO_add {t : PyData} {A : List St3} {ys : List (PyData × Fo)} {x : PyData × Fo} : kO t A (ys ++ [x]) = stepO t (kO t A ys) x := by
  unfold kO
  rw [List.foldl_append]
  rfl
theorem kI_add {t : PyData} {A : List St3} {ys : List (PyData × Fo)} {x : PyData × Fo} : kI t A (ys ++ [x]) = stepI t (kI t A ys) x := by
  unfold kI
  rw [List.foldl_append]
  rfl
theorem av_star1 {W : Wd} {δ : List Sl} {g : W.G} {te : TE} {ds : List PyData} (h : EvD K W te δ g (.list ds)) : AvD K W (StX.tStar K te tNil) δ g ds := by
  have := av_starA (tr := tNil) (es := []) h av_nil
  rwa [List.append_nil] at this
theorem len100 {n : Nat} (h : n ≤ 100000) : n ≤ sizeLine := Nat.le_trans h (by decide)
theorem lt100 {n : Nat} (h : n ≤ 100000) : n < sizeLine := Nat.lt_of_le_of_lt h (by decide)
theorem ok_over_left (Bt : Blt mg) (CBl : ClB K CB) (M : Brg K CB CF) (n : Nat) (G_found : FnOk P w K mg base CX0 (2 * n + 14) M.found.f M.found.fd p_Bridge_found (sp_found K CB CF n (fnd n) cAll)) :
    FnOk P w K mg base CX0 (2 * n + 15) M.over_left.f M.over_left.fd p_Bridge_over_left (sp_found K CB CF (n + 1) (fun l r s => overL (fun p => fnd n p r) l r s) cL) := by
  have B := Bt
  obtain ⟨M_noted, M_linked, M_found, M_over_left, M_over_right, M_through_part, M_is_below, M_reason_for⟩ := M
  have G_noted : FnOk P w K mg base CX0 1 M_noted.f M_noted.fd p_Bridge_noted (sp_noted K CB CF) := ok_noted Bt M_noted
  have G_linked : FnOk P w K mg base CX0 2 M_linked.f M_linked.fd p_Bridge_linked (sp_linked K CB CF) := ok_linked Bt CBl M_noted M_linked
  refine fn_okG (α := BI CB CF × PyData × PyData × S2) M_over_left.fn sc_Bridge_over_left (fun _ => rfl) fun cdv A outer s H E hr y hx => ⟨_, (pss_cons (ps_setLc (i := 3) (own := [("part", 7)]) (g := gName 7) (tt := tYes) rfl sc_Bridge_over_left.nd rfl rfl (sw_true rfl rfl rfl (by decide +kernel)) (pi_tup (pe_slice (w_slT K) (pv 1) (po_some pe_int) po_none)) (blkOk_by (N := n_Bridge_over_left) (sc := defScope s_Bridge_over_left) (by decide +kernel)) (fun _ _ _ _ _ => (pg_name (i := 7) sc_Bridge_over_left.nd rfl (by first | exact Or.inl rfl | exact Or.inr rfl))) (fun _ _ _ _ _ => pts_nil) (fun _ _ _ _ _ => (pe_meth (pv 0) CBl.cl M_found.me G_found (hr.mono (by omega)) M_found.b .nil pass0 (pa_cons (pv 7) (pa_cons (pv 2) pa_nil)))))
  (pss_cons (ps_set (i := 4) sc_Bridge_over_left.nd rfl (by first | exact Or.inl rfl | exact Or.inr rfl) (pe_tup (pa_cons pe_str (StX.pa_star (pe_lc (own := [("row", 13)]) (g := gName 13) (tt := tYes) (by rfl) sc_Bridge_over_left.nd (pi_list (pv 3)) (blkOk_by (N := n_Bridge_over_left) (sc := defScope s_Bridge_over_left) (by decide +kernel)) (fun _ _ _ _ _ => (pg_name (i := 13) sc_Bridge_over_left.nd rfl (by first | exact Or.inl rfl | exact Or.inr rfl))) (fun _ _ _ _ _ => pts_nil) (fun _ _ _ _ _ => (pe_ix (w_ix K) (pv 13) pe_int (fun _ _ => rfl)))) pa_nil))))
  (pss_cons (ps_set (i := 5) sc_Bridge_over_left.nd rfl (by first | exact Or.inl rfl | exact Or.inr rfl) (pe_fld (pv 0) rfl))
  (pss_cons (ps_set (i := 6) sc_Bridge_over_left.nd rfl (by first | exact Or.inl rfl | exact Or.inr rfl) (pe_lst pa_nil))
  (pss_cons (ps_for PassesOwn.never rfl (pi_ztl (by rfl) B.zip (pa_cons (pe_slice (w_slT K) (pv 1) (po_some pe_int) po_none) (pa_cons (pv 3) pa_nil))) (pg_tup rfl (pgs_cons (pg_name (i := 7) sc_Bridge_over_left.nd rfl (by first | exact Or.inl rfl | exact Or.inr rfl)) (pgs_cons (pg_tup rfl (pgs_cons (pg_name (i := 8) sc_Bridge_over_left.nd rfl (by first | exact Or.inl rfl | exact Or.inr rfl)) (pgs_cons (pg_name (i := 9) sc_Bridge_over_left.nd rfl (by first | exact Or.inl rfl | exact Or.inr rfl)) (pgs_cons (pg_name (i := 10) sc_Bridge_over_left.nd rfl (by first | exact Or.inl rfl | exact Or.inr rfl)) pgs_nil)))) pgs_nil))) (pss_cons (ps_set (i := 11) sc_Bridge_over_left.nd rfl (by first | exact Or.inl rfl | exact Or.inr rfl) (pe_meth (pv 0) CBl.cl M_noted.me G_noted (hr.mono (by omega)) M_noted.b .nil pass0 (pa_cons (pv 5) (pa_cons (pv 8) (pa_cons (pv 4) (pa_cons (pe_tup (pa_cons pe_str pa_nil)) pa_nil))))))
  (pss_one (ps_expr (pe_bm PySem.F.plainAttrs_list PySem.F.slot_list_append PySem.F.type_list_append mt_append (pv 6) (pa_cons (pe_meth (pv 0) CBl.cl M_linked.me G_linked (hr.mono (by omega)) M_linked.b .nil pass0 (pa_cons (pv 5) (pa_cons (pv 7) (pa_cons (pv 4) (pa_cons (pv 9) (pa_cons (pv 11) pa_nil)))))) pa_nil))))))
  (pss_cons (ps_set (i := 12) sc_Bridge_over_left.nd rfl (by first | exact Or.inl rfl | exact Or.inr rfl) (pe_meth (pv 0) CBl.cl M_noted.me G_noted (hr.mono (by omega)) M_noted.b .nil pass0 (pa_cons (pv 5) (pa_cons (pv 1) (pa_cons (pv 4) (pa_cons (pe_tup (pa_cons pe_str (pa_cons (pe_callTy (w_tuple K) (by rfl) B.tuple_ bt_tuple (pa_cons (pv 6) pa_nil)) pa_nil))) pa_nil))))))
  (pss_one (ps_ret (pe_tup (pa_cons (pv 4) (pa_cons (pv 12) (pa_cons (pe_meth (pv 0) CBl.cl M_noted.me G_noted (hr.mono (by omega)) M_noted.b .nil pass0 (pa_cons (pe_fld (pv 0) rfl) (pa_cons (pv 4) (pa_cons (pv 2) (pa_cons (pe_tup (pa_cons pe_str (pa_cons (pe_callTy (w_tuple K) (by rfl) B.tuple_ bt_tuple (pa_cons (pe_lc (own := [("row", 13)]) (g := gName 13) (tt := tYes) (by rfl) sc_Bridge_over_left.nd (pi_list (pv 3)) (blkOk_by (N := n_Bridge_over_left) (sc := defScope s_Bridge_over_left) (by decide +kernel)) (fun _ _ _ _ _ => (pg_name (i := 13) sc_Bridge_over_left.nd rfl (by first | exact Or.inl rfl | exact Or.inr rfl))) (fun _ _ _ _ _ => pts_nil) (fun _ _ _ _ _ => (pe_ix (w_ix K) (pv 13) pe_int (fun _ _ => rfl)))) pa_nil)) pa_nil))) pa_nil))))) pa_nil)))))))))))), ?_⟩
  obtain ⟨y, l, r, st⟩ := y
  obtain ⟨hx, q0, q1⟩ := hx
  dsimp only at hx q0 q1 ⊢
  have en := opIs_node q1
  have nr : nol r = true := isT_nol hx.ask.tr.1
  have nl : nol l = true := isT_nol hx.ask.tl.1
  obtain ⟨hT, hL⟩ := hx.rowsL q0 q1
  have hlen := mapS_len (fun p => fnd n p r) (partsD l) st
  unfold overL
  dsimp only
  have ez : Emb K y (WB K y) := Emb.self y
  -- rows
  refine x_seq (x_asg (ev_lcT (ds := partsD l) (ev_tail (ev_var (by rw [← en]; rfl))) (fun i acc g' => acc = (mapS (fun p => fnd n p r) ((partsD l).take i) st).1.map Fo.d ∧ g' = (mapS (fun p => fnd n p r) ((partsD l).take i) st).2) ⟨rfl, rfl⟩ (fun i p acc g' hi _ ⟨ha, hg⟩ => ?_) fun acc g' _ _ ⟨ha, hg⟩ => ?_))
  · subst ha
    subst hg
    have hp := hx.left q0 q1 hi
    refine cg_name (by simp) (tv_yes.to ⟨fun _ => EvS.imp (ev_meth (ev_var rfl) (Emb.self y).nome (av_two (ev_var rfl) (ev_var rfl)) (rc_found hp trivial)) fun s g1 ⟨e1, e2⟩ => ⟨_, e1, Fo.nol hp.ok.tT, ?_⟩, fun z => by cases z⟩)
    rw [List.take_add_one, hi]
    show _ = (mapS _ ((partsD l).take i ++ [p]) st).1.map Fo.d ∧ g1 = (mapS _ ((partsD l).take i ++ [p]) st).2
    rw [mapS_add, List.map_append]
    exact ⟨rfl, e2⟩
  rw [List.take_length] at ha hg
  subst ha
  subst hg
  generalize mapS (fun p => fnd n p r) (partsD l) st = m at hT hL hlen ⊢
  obtain ⟨fs, AA, UU⟩ := m
  dsimp only at hT hL hlen ⊢
  have hLl : AA.length + 5 * (partsD l).length ≤ 100000 := hL false
  have hLu : UU.length + 5 * (partsD l).length ≤ 100000 := hL true
  -- term
  refine x_seq (x_asg (EvS.to (EvS.asD (ev_tupA (ds := .str BAR :: fs.map Fo.t) (av_cons ev_str (av_star1 (EvS.asD (ev_lcLm rowT (ev_var rfl) fun d hd => ?_) (by rw [rows_T])))) ?_) rfl) ?_))
  · obtain ⟨f, hf, rfl⟩ := List.mem_map.mp hd
    exact ⟨isT_nol (hT f hf), cg_name (by simp) ⟨rfl, ev_opD (ev_var rfl) ev_int (rv_ix at0)⟩⟩
  · rw [List.length_cons, List.length_map, hlen]
    exact Nat.le_trans (show (partsD l).length + 1 ≤ 100001 by omega) (by decide)
  have nt : nol (node BAR (fs.map Fo.t)) = true := by
    have : nols (fs.map Fo.t) = true := nols_mem.mpr fun d hd => by
      obtain ⟨f, hf, rfl⟩ := List.mem_map.mp hd
      exact isT_nol (hT f hf)
    simp [nol, nols, this]
  refine x_seq (x_asg (EvS.to (ev_lo CBl (Emb.self y) rfl) ?_))
  refine x_own fun p => ?_
  have eo := Emb.own (K := K) y p
  refine x_seqM (fun δ' g' => (∃ z7 z8 z9 z10 z11, δ' = [.val (.ref y.ba), .dat l, .dat r, .dat (.list (fs.map Fo.d)), .dat (node BAR (fs.map Fo.t)), .val (.ref (y.ad false)), .val (.ref p), z7, z8, z9, z10, z11, .no, .no]) ∧ g' = ownG K y p (kO (node BAR (fs.map Fo.t)) AA ((partsD l).zip fs)).1 UU (kO (node BAR (fs.map Fo.t)) AA ((partsD l).zip fs)).2) ?_ fun δ' g' h => ?_
  · refine x_forZ (ds := partsD l) (es := fs.map Fo.d) (by rw [List.length_map, hlen]) (av_two (ev_tail (ev_var (by rw [← en]; rfl))) (ev_var rfl)) (fun i δ' g' => (∃ z7 z8 z9 z10 z11, δ' = [.val (.ref y.ba), .dat l, .dat r, .dat (.list (fs.map Fo.d)), .dat (node BAR (fs.map Fo.t)), .val (.ref (y.ad false)), .val (.ref p), z7, z8, z9, z10, z11, .no, .no]) ∧
      g' = ownG K y p (kO (node BAR (fs.map Fo.t)) AA (((partsD l).zip fs).take i)).1 UU (kO (node BAR (fs.map Fo.t)) AA (((partsD l).zip fs).take i)).2) ⟨⟨_, _, _, _, _, rfl⟩, rfl⟩ (fun i d e δ' g' hi he hJ => ?_) fun δ' g' hJ => ?_
    · obtain ⟨⟨z7, z8, z9, z10, z11, rfl⟩, hg⟩ := hJ
      rw [List.getElem?_map] at he
      cases hf : fs[i]? with
      | none => rw [hf] at he; cases he
      | some f =>
        rw [hf] at he
        cases he
        have hfm := List.mem_of_getElem? hf
        have hdm := List.mem_of_getElem? hi
        obtain ⟨m, _, hdT⟩ := parts_T hx.ask.tl.1 hdm
        have lens := kO_len (t := node BAR (fs.map Fo.t)) (A := AA) (ys := ((partsD l).zip fs).take i)
        have hzl : (((partsD l).zip fs).take i).length ≤ (partsD l).length := by
          rw [List.length_take, List.length_zip]; omega
        rw [zip_take hi hf, kO_add]
        generalize kO (node BAR (fs.map Fo.t)) AA (((partsD l).zip fs).take i) = kk at hg lens ⊢
        obtain ⟨A1, js⟩ := kk
        dsimp only at lens
        have hi' := (List.getElem?_eq_some_iff.mp hi).1
        have his : js.length ≤ 100000 := by omega
        have hA1 : A1.length + 1 ≤ 100000 := by omega
        subst hg
        refine gs_tup rfl (gs_cons (gs_name (gs_cons (gs_tup rfl (gs_cons (gs_name (gs_cons (gs_name (gs_cons (gs_name (gs_nil (gs_nil ?_))))))))))))
        refine x_seq (x_asg (EvS.imp (ev_meth (ev_var rfl) (Emb.own y p).nome (av_cons (ev_var rfl) (av_cons (ev_var rfl) (av_two (ev_var rfl) (ev_tup (ds := [.str "part"]) (av_one ev_str))))) (rc_noted (P := is _ (ownG K y p (A1 ++ [⟨f.t, node BAR (fs.map Fo.t), wPart⟩]) UU js)) (Emb.own y p) false (nol_part (isT_nol (hT f hfm)) nt) (show A1.length ≤ 100000 by omega) ⟨rfl, rfl⟩)) fun s g1 ⟨e1, e2⟩ => ?_))
        subst e1
        subst e2
        have h2 : (A1 ++ [(⟨f.t, node BAR (fs.map Fo.t), wPart⟩ : St3)]).length = A1.length + 1 := by rw [List.length_append]; rfl
        refine x_drop (ev_ownApp (P1 := is (.dat (.int ((A1.length + 1 : Nat) : Int))) (ownG K y p (stepO (node BAR (fs.map Fo.t)) (A1, js) (d, f)).1 UU js)) (fun g => ev_var rfl) (ev_meth (ev_var rfl) (Emb.own y p).nome (av_cons (ev_var rfl) (av_cons (ev_var rfl) (av_cons (ev_var rfl) (av_two (ev_var rfl) (ev_var rfl))))) (rc_linked (Emb.own y p) false (isT_nol hdT) nt (show (A1 ++ [_]).length ≤ 100000 by rw [h2]; exact hA1) ⟨by rw [← h2]; rfl, rfl⟩)) fun s g1 ⟨e1, e2⟩ => ⟨_, e1, rfl, ?_, ⟨_, _, _, _, _, rfl⟩, ?_⟩)
        · rw [e2]
          show (js.map _).length < _
          rw [List.length_map]
          exact lt100 his
        · rw [e2]
          show (_, (js.map _) ++ [_]) = (_, (js ++ [_]).map _)
          rw [List.map_append]
          rfl
    · obtain ⟨h1, h2⟩ := hJ
      refine ⟨h1, ?_⟩
      rw [List.take_of_length_le (by rw [List.length_zip, hlen]; exact Nat.min_le_left _ _)] at h2
      exact h2
  obtain ⟨⟨z7, z8, z9, z10, z11, rfl⟩, hg⟩ := h
  have lens := kO_len (t := node BAR (fs.map Fo.t)) (A := AA) (ys := (partsD l).zip fs)
  have hzl : ((partsD l).zip fs).length ≤ (partsD l).length := by
    rw [List.length_zip]; omega
  show ExS K ((WB K y).own K p) _ _ _ _
  have eK : ((partsD l).zip fs).foldl (stepO (node BAR (fs.map Fo.t))) (AA, []) = kO (node BAR (fs.map Fo.t)) AA ((partsD l).zip fs) := rfl
  rw [eK]
  generalize kO (node BAR (fs.map Fo.t)) AA ((partsD l).zip fs) = kk at hg lens ⊢
  obtain ⟨A1, js⟩ := kk
  dsimp only at lens ⊢
  have his : js.length ≤ 100000 := by omega
  have hA1 : A1.length ≤ 100000 := by omega
  subst hg
  have hisl : (js.map fun i => PyData.int (i : Nat)).length ≤ sizeLine := by
    rw [List.length_map]
    exact len100 his
  refine x_seq (x_asg (EvS.imp (ev_meth (ev_var rfl) (Emb.own y p).nome (av_cons (ev_var rfl) (av_cons (ev_var rfl) (av_two (ev_var rfl) (ev_tup (ds := [.str "out", .tuple (js.map fun i => PyData.int (i : Nat))]) (av_two ev_str (ev_cb1 (ev_var rfl) (rc_ownTup hisl))))))) (rc_noted (P := is _ (ownG K y p (A1 ++ [⟨l, node BAR (fs.map Fo.t), wMany "out" js⟩]) UU js)) (Emb.own y p) false (nol_many nl nt) hA1 ⟨rfl, rfl⟩)) fun s g1 ⟨e1, e2⟩ => ?_))
  subst e1
  subst e2
  refine x_ret (EvS.imp (ev_tupG (g2 := ownG K y p (A1 ++ [⟨l, node BAR (fs.map Fo.t), wMany "out" js⟩]) (UU ++ [⟨node BAR (fs.map Fo.t), r, wMany "out" (fs.map Fo.j)⟩]) js) (ds := [node BAR (fs.map Fo.t), .int (A1.length : Nat), .int (UU.length : Nat)]) (av_consG (ev_var rfl) (av_consG (ev_var rfl) (av_consG (ev_meth (ev_var rfl) (Emb.own y p).nome (av_cons (ev_up CBl (Emb.own y p) rfl) (av_cons (ev_var rfl) (av_two (ev_var rfl) (ev_tup (ds := [.str "out", .tuple ((fs.map Fo.j).map fun i => PyData.int (i : Nat))]) (av_two ev_str (ev_cb1 (EvS.asD (ev_lcLm rowJ (ev_var rfl) fun d hd => ?_) (by rw [rows_J])) rc_tupL)))))) (rc_noted (Emb.own y p) true (nol_many nt nr) (show UU.length ≤ 100000 by omega) ⟨rfl, rfl⟩)) av_nil)))) fun s g1 ⟨e1, e2⟩ => ⟨e1, by rw [e2]; rfl⟩)
  obtain ⟨f, hf, rfl⟩ := List.mem_map.mp hd
  exact ⟨rfl, cg_name (by simp) ⟨rfl, ev_opD (ev_var rfl) ev_int (rv_ix at2)⟩⟩
end
end Z
namespace Z
open PySem L2
section
variable {P : Program} {w : World} {K : PySem.W.Frag} {mg : Str → Option Value} {base : Heap} {CB CF : Addr}
theorem ok_over_right (Bt : Blt mg) (CBl : ClB K CB) (M : Brg K CB CF) (n : Nat) (G_found : FnOk P w K mg base CX0 (2 * n + 14) M.found.f M.found.fd p_Bridge_found (sp_found K CB CF n (fnd n) cAll)) :
    FnOk P w K mg base CX0 (2 * n + 15) M.over_right.f M.over_right.fd p_Bridge_over_right (sp_found K CB CF (n + 1) (fun l r s => overR (fun p => fnd n l p) l r s) cR) := by
  have B := Bt
  obtain ⟨M_noted, M_linked, M_found, M_over_left, M_over_right, M_through_part, M_is_below, M_reason_for⟩ := M
  have G_noted : FnOk P w K mg base CX0 1 M_noted.f M_noted.fd p_Bridge_noted (sp_noted K CB CF) := ok_noted Bt M_noted
  have G_linked : FnOk P w K mg base CX0 2 M_linked.f M_linked.fd p_Bridge_linked (sp_linked K CB CF) := ok_linked Bt CBl M_noted M_linked
  refine fn_okG (α := BI CB CF × PyData × PyData × S2) M_over_right.fn sc_Bridge_over_right (fun _ => rfl) fun cdv A outer s H E hr y hx => ⟨_, (pss_cons (ps_setLc (i := 3) (own := [("part", 7)]) (g := gName 7) (tt := tYes) rfl sc_Bridge_over_right.nd rfl rfl (sw_true rfl rfl rfl (by decide +kernel)) (pi_tup (pe_slice (w_slT K) (pv 2) (po_some pe_int) po_none)) (blkOk_by (N := n_Bridge_over_right) (sc := defScope s_Bridge_over_right) (by decide +kernel)) (fun _ _ _ _ _ => (pg_name (i := 7) sc_Bridge_over_right.nd rfl (by first | exact Or.inl rfl | exact Or.inr rfl))) (fun _ _ _ _ _ => pts_nil) (fun _ _ _ _ _ => (pe_meth (pv 0) CBl.cl M_found.me G_found (hr.mono (by omega)) M_found.b .nil pass0 (pa_cons (pv 1) (pa_cons (pv 7) pa_nil)))))
  (pss_cons (ps_set (i := 4) sc_Bridge_over_right.nd rfl (by first | exact Or.inl rfl | exact Or.inr rfl) (pe_tup (pa_cons pe_str (StX.pa_star (pe_lc (own := [("row", 13)]) (g := gName 13) (tt := tYes) (by rfl) sc_Bridge_over_right.nd (pi_list (pv 3)) (blkOk_by (N := n_Bridge_over_right) (sc := defScope s_Bridge_over_right) (by decide +kernel)) (fun _ _ _ _ _ => (pg_name (i := 13) sc_Bridge_over_right.nd rfl (by first | exact Or.inl rfl | exact Or.inr rfl))) (fun _ _ _ _ _ => pts_nil) (fun _ _ _ _ _ => (pe_ix (w_ix K) (pv 13) pe_int (fun _ _ => rfl)))) pa_nil))))
  (pss_cons (ps_set (i := 5) sc_Bridge_over_right.nd rfl (by first | exact Or.inl rfl | exact Or.inr rfl) (pe_fld (pv 0) rfl))
  (pss_cons (ps_set (i := 6) sc_Bridge_over_right.nd rfl (by first | exact Or.inl rfl | exact Or.inr rfl) (pe_lst pa_nil))
  (pss_cons (ps_for PassesOwn.never rfl (pi_ztl (by rfl) B.zip (pa_cons (pe_slice (w_slT K) (pv 2) (po_some pe_int) po_none) (pa_cons (pv 3) pa_nil))) (pg_tup rfl (pgs_cons (pg_name (i := 7) sc_Bridge_over_right.nd rfl (by first | exact Or.inl rfl | exact Or.inr rfl)) (pgs_cons (pg_tup rfl (pgs_cons (pg_name (i := 8) sc_Bridge_over_right.nd rfl (by first | exact Or.inl rfl | exact Or.inr rfl)) (pgs_cons (pg_name (i := 9) sc_Bridge_over_right.nd rfl (by first | exact Or.inl rfl | exact Or.inr rfl)) (pgs_cons (pg_name (i := 10) sc_Bridge_over_right.nd rfl (by first | exact Or.inl rfl | exact Or.inr rfl)) pgs_nil)))) pgs_nil))) (pss_cons (ps_set (i := 11) sc_Bridge_over_right.nd rfl (by first | exact Or.inl rfl | exact Or.inr rfl) (pe_meth (pv 0) CBl.cl M_noted.me G_noted (hr.mono (by omega)) M_noted.b .nil pass0 (pa_cons (pv 5) (pa_cons (pv 4) (pa_cons (pv 8) (pa_cons (pe_tup (pa_cons pe_str pa_nil)) pa_nil))))))
  (pss_one (ps_expr (pe_bm PySem.F.plainAttrs_list PySem.F.slot_list_append PySem.F.type_list_append mt_append (pv 6) (pa_cons (pe_meth (pv 0) CBl.cl M_linked.me G_linked (hr.mono (by omega)) M_linked.b .nil pass0 (pa_cons (pv 5) (pa_cons (pv 4) (pa_cons (pv 7) (pa_cons (pv 11) (pa_cons (pv 10) pa_nil)))))) pa_nil))))))
  (pss_cons (ps_set (i := 12) sc_Bridge_over_right.nd rfl (by first | exact Or.inl rfl | exact Or.inr rfl) (pe_meth (pv 0) CBl.cl M_noted.me G_noted (hr.mono (by omega)) M_noted.b .nil pass0 (pa_cons (pv 5) (pa_cons (pv 4) (pa_cons (pv 2) (pa_cons (pe_tup (pa_cons pe_str (pa_cons (pe_callTy (w_tuple K) (by rfl) B.tuple_ bt_tuple (pa_cons (pv 6) pa_nil)) pa_nil))) pa_nil))))))
  (pss_one (ps_ret (pe_tup (pa_cons (pv 4) (pa_cons (pe_meth (pv 0) CBl.cl M_noted.me G_noted (hr.mono (by omega)) M_noted.b .nil pass0 (pa_cons (pe_fld (pv 0) rfl) (pa_cons (pv 1) (pa_cons (pv 4) (pa_cons (pe_tup (pa_cons pe_str (pa_cons (pe_callTy (w_tuple K) (by rfl) B.tuple_ bt_tuple (pa_cons (pe_lc (own := [("row", 13)]) (g := gName 13) (tt := tYes) (by rfl) sc_Bridge_over_right.nd (pi_list (pv 3)) (blkOk_by (N := n_Bridge_over_right) (sc := defScope s_Bridge_over_right) (by decide +kernel)) (fun _ _ _ _ _ => (pg_name (i := 13) sc_Bridge_over_right.nd rfl (by first | exact Or.inl rfl | exact Or.inr rfl))) (fun _ _ _ _ _ => pts_nil) (fun _ _ _ _ _ => (pe_ix (w_ix K) (pv 13) pe_int (fun _ _ => rfl)))) pa_nil)) pa_nil))) pa_nil))))) (pa_cons (pv 12) pa_nil)))))))))))), ?_⟩
  obtain ⟨y, l, r, st⟩ := y
  obtain ⟨hx, q0, q1, q2⟩ := hx
  dsimp only at hx q0 q1 q2 ⊢
  have en := opIs_node q2
  have nr : nol r = true := isT_nol hx.ask.tr.1
  have nl : nol l = true := isT_nol hx.ask.tl.1
  obtain ⟨hT, hL⟩ := hx.rowsR q0 q1 q2
  have hlen := mapS_len (fun p => fnd n l p) (partsD r) st
  unfold overR
  dsimp only
  have ez : Emb K y (WB K y) := Emb.self y
  -- rows
  refine x_seq (x_asg (ev_lcT (ds := partsD r) (ev_tail (ev_var (by rw [← en]; rfl))) (fun i acc g' => acc = (mapS (fun p => fnd n l p) ((partsD r).take i) st).1.map Fo.d ∧ g' = (mapS (fun p => fnd n l p) ((partsD r).take i) st).2) ⟨rfl, rfl⟩ (fun i p acc g' hi _ ⟨ha, hg⟩ => ?_) fun acc g' _ _ ⟨ha, hg⟩ => ?_))
  · subst ha
    subst hg
    have hp := hx.right q0 q1 q2 hi
    refine cg_name (by simp) (tv_yes.to ⟨fun _ => EvS.imp (ev_meth (ev_var rfl) (Emb.self y).nome (av_two (ev_var rfl) (ev_var rfl)) (rc_found hp trivial)) fun s g1 ⟨e1, e2⟩ => ⟨_, e1, Fo.nol hp.ok.tT, ?_⟩, fun z => by cases z⟩)
    rw [List.take_add_one, hi]
    show _ = (mapS _ ((partsD r).take i ++ [p]) st).1.map Fo.d ∧ g1 = (mapS _ ((partsD r).take i ++ [p]) st).2
    rw [mapS_add, List.map_append]
    exact ⟨rfl, e2⟩
  rw [List.take_length] at ha hg
  subst ha
  subst hg
  generalize mapS (fun p => fnd n l p) (partsD r) st = m at hT hL hlen ⊢
  obtain ⟨fs, AA, UU⟩ := m
  dsimp only at hT hL hlen ⊢
  have hLl : AA.length + 5 * (partsD r).length ≤ 100000 := hL false
  have hLu : UU.length + 5 * (partsD r).length ≤ 100000 := hL true
  -- term
  refine x_seq (x_asg (EvS.to (EvS.asD (ev_tupA (ds := .str AMP :: fs.map Fo.t) (av_cons ev_str (av_star1 (EvS.asD (ev_lcLm rowT (ev_var rfl) fun d hd => ?_) (by rw [rows_T])))) ?_) rfl) ?_))
  · obtain ⟨f, hf, rfl⟩ := List.mem_map.mp hd
    exact ⟨isT_nol (hT f hf), cg_name (by simp) ⟨rfl, ev_opD (ev_var rfl) ev_int (rv_ix at0)⟩⟩
  · rw [List.length_cons, List.length_map, hlen]
    exact Nat.le_trans (show (partsD r).length + 1 ≤ 100001 by omega) (by decide)
  have nt : nol (node AMP (fs.map Fo.t)) = true := by
    have : nols (fs.map Fo.t) = true := nols_mem.mpr fun d hd => by
      obtain ⟨f, hf, rfl⟩ := List.mem_map.mp hd
      exact isT_nol (hT f hf)
    simp [nol, nols, this]
  refine x_seq (x_asg (EvS.to (ev_up CBl (Emb.self y) rfl) ?_))
  refine x_own fun p => ?_
  have eo := Emb.own (K := K) y p
  refine x_seqM (fun δ' g' => (∃ z7 z8 z9 z10 z11, δ' = [.val (.ref y.ba), .dat l, .dat r, .dat (.list (fs.map Fo.d)), .dat (node AMP (fs.map Fo.t)), .val (.ref (y.ad true)), .val (.ref p), z7, z8, z9, z10, z11, .no, .no]) ∧ g' = ownG K y p AA (kI (node AMP (fs.map Fo.t)) UU ((partsD r).zip fs)).1 (kI (node AMP (fs.map Fo.t)) UU ((partsD r).zip fs)).2) ?_ fun δ' g' h => ?_
  · refine x_forZ (ds := partsD r) (es := fs.map Fo.d) (by rw [List.length_map, hlen]) (av_two (ev_tail (ev_var (by rw [← en]; rfl))) (ev_var rfl)) (fun i δ' g' => (∃ z7 z8 z9 z10 z11, δ' = [.val (.ref y.ba), .dat l, .dat r, .dat (.list (fs.map Fo.d)), .dat (node AMP (fs.map Fo.t)), .val (.ref (y.ad true)), .val (.ref p), z7, z8, z9, z10, z11, .no, .no]) ∧
      g' = ownG K y p AA (kI (node AMP (fs.map Fo.t)) UU (((partsD r).zip fs).take i)).1 (kI (node AMP (fs.map Fo.t)) UU (((partsD r).zip fs).take i)).2) ⟨⟨_, _, _, _, _, rfl⟩, rfl⟩ (fun i d e δ' g' hi he hJ => ?_) fun δ' g' hJ => ?_
    · obtain ⟨⟨z7, z8, z9, z10, z11, rfl⟩, hg⟩ := hJ
      rw [List.getElem?_map] at he
      cases hf : fs[i]? with
      | none => rw [hf] at he; cases he
      | some f =>
        rw [hf] at he
        cases he
        have hfm := List.mem_of_getElem? hf
        have hdm := List.mem_of_getElem? hi
        obtain ⟨m, _, hdT⟩ := parts_T hx.ask.tr.1 hdm
        have lens := kI_len (t := node AMP (fs.map Fo.t)) (A := UU) (ys := ((partsD r).zip fs).take i)
        have hzl : (((partsD r).zip fs).take i).length ≤ (partsD r).length := by
          rw [List.length_take, List.length_zip]; omega
        rw [zip_take hi hf, kI_add]
        generalize kI (node AMP (fs.map Fo.t)) UU (((partsD r).zip fs).take i) = kk at hg lens ⊢
        obtain ⟨A1, js⟩ := kk
        dsimp only at lens
        have hi' := (List.getElem?_eq_some_iff.mp hi).1
        have his : js.length ≤ 100000 := by omega
        have hA1 : A1.length + 1 ≤ 100000 := by omega
        subst hg
        refine gs_tup rfl (gs_cons (gs_name (gs_cons (gs_tup rfl (gs_cons (gs_name (gs_cons (gs_name (gs_cons (gs_name (gs_nil (gs_nil ?_))))))))))))
        refine x_seq (x_asg (EvS.imp (ev_meth (ev_var rfl) (Emb.own y p).nome (av_cons (ev_var rfl) (av_cons (ev_var rfl) (av_two (ev_var rfl) (ev_tup (ds := [.str "part"]) (av_one ev_str))))) (rc_noted (P := is _ (ownG K y p AA (A1 ++ [⟨node AMP (fs.map Fo.t), f.t, wPart⟩]) js)) (Emb.own y p) true (nol_part nt (isT_nol (hT f hfm))) (show A1.length ≤ 100000 by omega) ⟨rfl, rfl⟩)) fun s g1 ⟨e1, e2⟩ => ?_))
        subst e1
        subst e2
        have h2 : (A1 ++ [(⟨node AMP (fs.map Fo.t), f.t, wPart⟩ : St3)]).length = A1.length + 1 := by rw [List.length_append]; rfl
        refine x_drop (ev_ownApp (P1 := is (.dat (.int ((A1.length + 1 : Nat) : Int))) (ownG K y p AA (stepI (node AMP (fs.map Fo.t)) (A1, js) (d, f)).1 js)) (fun g => ev_var rfl) (ev_meth (ev_var rfl) (Emb.own y p).nome (av_cons (ev_var rfl) (av_cons (ev_var rfl) (av_cons (ev_var rfl) (av_two (ev_var rfl) (ev_var rfl))))) (rc_linked (Emb.own y p) true nt (isT_nol hdT) (show (A1 ++ [_]).length ≤ 100000 by rw [h2]; exact hA1) ⟨by rw [← h2]; rfl, rfl⟩)) fun s g1 ⟨e1, e2⟩ => ⟨_, e1, rfl, ?_, ⟨_, _, _, _, _, rfl⟩, ?_⟩)
        · rw [e2]
          show (js.map _).length < _
          rw [List.length_map]
          exact lt100 his
        · rw [e2]
          show (_, (js.map _) ++ [_]) = (_, (js ++ [_]).map _)
          rw [List.map_append]
          rfl
    · obtain ⟨h1, h2⟩ := hJ
      refine ⟨h1, ?_⟩
      rw [List.take_of_length_le (by rw [List.length_zip, hlen]; exact Nat.min_le_left _ _)] at h2
      exact h2
  obtain ⟨⟨z7, z8, z9, z10, z11, rfl⟩, hg⟩ := h
  have lens := kI_len (t := node AMP (fs.map Fo.t)) (A := UU) (ys := (partsD r).zip fs)
  have hzl : ((partsD r).zip fs).length ≤ (partsD r).length := by
    rw [List.length_zip]; omega
  show ExS K ((WB K y).own K p) _ _ _ _
  have eK : ((partsD r).zip fs).foldl (stepI (node AMP (fs.map Fo.t))) (UU, []) = kI (node AMP (fs.map Fo.t)) UU ((partsD r).zip fs) := rfl
  rw [eK]
  generalize kI (node AMP (fs.map Fo.t)) UU ((partsD r).zip fs) = kk at hg lens ⊢
  obtain ⟨A1, js⟩ := kk
  dsimp only at lens ⊢
  have his : js.length ≤ 100000 := by omega
  have hA1 : A1.length ≤ 100000 := by omega
  subst hg
  have hisl : (js.map fun i => PyData.int (i : Nat)).length ≤ sizeLine := by
    rw [List.length_map]
    exact len100 his
  refine x_seq (x_asg (EvS.imp (ev_meth (ev_var rfl) (Emb.own y p).nome (av_cons (ev_var rfl) (av_cons (ev_var rfl) (av_two (ev_var rfl) (ev_tup (ds := [.str "into", .tuple (js.map fun i => PyData.int (i : Nat))]) (av_two ev_str (ev_cb1 (ev_var rfl) (rc_ownTup hisl))))))) (rc_noted (P := is _ (ownG K y p AA (A1 ++ [⟨node AMP (fs.map Fo.t), r, wMany "into" js⟩]) js)) (Emb.own y p) true (nol_many nt nr) hA1 ⟨rfl, rfl⟩)) fun s g1 ⟨e1, e2⟩ => ?_))
  subst e1
  subst e2
  refine x_ret (EvS.imp (ev_tupG (g2 := ownG K y p (AA ++ [⟨l, node AMP (fs.map Fo.t), wMany "into" (fs.map Fo.i)⟩]) (A1 ++ [⟨node AMP (fs.map Fo.t), r, wMany "into" js⟩]) js) (ds := [node AMP (fs.map Fo.t), .int (AA.length : Nat), .int (A1.length : Nat)]) (av_consG (ev_var rfl) (av_consG (ev_meth (ev_var rfl) (Emb.own y p).nome (av_cons (ev_lo CBl (Emb.own y p) rfl) (av_cons (ev_var rfl) (av_two (ev_var rfl) (ev_tup (ds := [.str "into", .tuple ((fs.map Fo.i).map fun i => PyData.int (i : Nat))]) (av_two ev_str (ev_cb1 (EvS.asD (ev_lcLm rowI (ev_var rfl) fun d hd => ?_) (by rw [rows_I])) rc_tupL)))))) (rc_noted (Emb.own y p) false (nol_many nl nt) (show AA.length ≤ 100000 by omega) ⟨rfl, rfl⟩)) (av_consG (ev_var rfl) av_nil)))) fun s g1 ⟨e1, e2⟩ => ⟨e1, by rw [e2]; rfl⟩)
  obtain ⟨f, hf, rfl⟩ := List.mem_map.mp hd
  exact ⟨rfl, cg_name (by simp) ⟨rfl, ev_opD (ev_var rfl) ev_int (rv_ix at1)⟩⟩
end
end Z
namespace Z
open PySem L2
section
variable {P : Program} {w : World} {K : PySem.W.Frag} {mg : Str → Option Value} {base : Heap} {CB CF : Addr}
theorem ok_through_part (Bt : Blt mg) (CBl : ClB K CB) (CF' : ClF K CF) (M : Brg K CB CF) (D_text_of : Def K mg "text_of" s_text_of p_text_of) (n : Nat) (G_found : FnOk P w K mg base CX0 (2 * n + 14) M.found.f M.found.fd p_Bridge_found (sp_found K CB CF n (fnd n) cAll)) :
    FnOk P w K mg base CX0 (2 * n + 15) M.through_part.f M.through_part.fd p_Bridge_through_part (sp_found K CB CF (n + 1) (thru (fnd n)) cT) := by
  have B := Bt
  have CC := CF'
  obtain ⟨M_noted, M_linked, M_found, M_over_left, M_over_right, M_through_part, M_is_below, M_reason_for⟩ := M
  have G_noted : FnOk P w K mg base CX0 1 M_noted.f M_noted.fd p_Bridge_noted (sp_noted K CB CF) := ok_noted Bt M_noted
  have G_linked : FnOk P w K mg base CX0 2 M_linked.f M_linked.fd p_Bridge_linked (sp_linked K CB CF) := ok_linked Bt CBl M_noted M_linked
  have G_reason_for : FnOk P w K mg base CX0 (2 * (n + 1) + 11) M_reason_for.f M_reason_for.fd p_Free_reason_for (spF K CF (n + 1) rsnD) := (ok_free Bt CF' M_is_below M_reason_for D_text_of (n + 1)).2
  refine fn_okG (α := BI CB CF × PyData × PyData × S2) M_through_part.fn sc_Bridge_through_part (fun _ => rfl) fun cdv A outer s H E hr y hx => ⟨_, (pss_cons (ps_asg (pe_meth (pe_fld (pv 0) rfl) CC.cl M_reason_for.me G_reason_for (hr.mono (by omega)) M_reason_for.b .nil pass0 (pa_cons (pv 1) (pa_cons (pv 2) pa_nil))) (pg_tup rfl (pgs_cons (pg_name (i := 3) sc_Bridge_through_part.nd rfl (by first | exact Or.inl rfl | exact Or.inr rfl)) (pgs_cons (pg_name (i := 4) sc_Bridge_through_part.nd rfl (by first | exact Or.inl rfl | exact Or.inr rfl)) pgs_nil))))
  (pss_cons (ps_if (pt_cmpR (w_eqD K hr.units) (pv 3) pe_str (nomark _)) (pss_cons (ps_set (i := 5) sc_Bridge_through_part.nd rfl (by first | exact Or.inl rfl | exact Or.inr rfl) (pe_ix (w_ix K) (pe_ix (w_ix K) (pv 4) pe_int (fun _ _ => rfl)) pe_int (fun _ _ => rfl)))
  (pss_cons (ps_asg (pe_meth (pv 0) CBl.cl M_found.me G_found (hr.mono (by omega)) M_found.b .nil pass0 (pa_cons (pv 1) (pa_cons (pv 5) pa_nil))) (pg_tup rfl (pgs_cons (pg_name (i := 6) sc_Bridge_through_part.nd rfl (by first | exact Or.inl rfl | exact Or.inr rfl)) (pgs_cons (pg_name (i := 7) sc_Bridge_through_part.nd rfl (by first | exact Or.inl rfl | exact Or.inr rfl)) (pgs_cons (pg_name (i := 8) sc_Bridge_through_part.nd rfl (by first | exact Or.inl rfl | exact Or.inr rfl)) pgs_nil)))))
  (pss_cons (ps_set (i := 9) sc_Bridge_through_part.nd rfl (by first | exact Or.inl rfl | exact Or.inr rfl) (pe_meth (pv 0) CBl.cl M_noted.me G_noted (hr.mono (by omega)) M_noted.b .nil pass0 (pa_cons (pe_fld (pv 0) rfl) (pa_cons (pv 5) (pa_cons (pv 2) (pa_cons (pe_tup (pa_cons pe_str pa_nil)) pa_nil))))))
  (pss_one (ps_ret (pe_tup (pa_cons (pv 6) (pa_cons (pv 7) (pa_cons (pe_meth (pv 0) CBl.cl M_linked.me G_linked (hr.mono (by omega)) M_linked.b .nil pass0 (pa_cons (pe_fld (pv 0) rfl) (pa_cons (pv 6) (pa_cons (pv 2) (pa_cons (pv 8) (pa_cons (pv 9) pa_nil)))))) pa_nil))))))))) pss_nil)
  (pss_cons (ps_set (i := 5) sc_Bridge_through_part.nd rfl (by first | exact Or.inl rfl | exact Or.inr rfl) (pe_ix (w_ix K) (pe_ix (w_ix K) (pv 4) pe_int (fun _ _ => rfl)) pe_int (fun _ _ => rfl)))
  (pss_cons (ps_asg (pe_meth (pv 0) CBl.cl M_found.me G_found (hr.mono (by omega)) M_found.b .nil pass0 (pa_cons (pv 5) (pa_cons (pv 2) pa_nil))) (pg_tup rfl (pgs_cons (pg_name (i := 6) sc_Bridge_through_part.nd rfl (by first | exact Or.inl rfl | exact Or.inr rfl)) (pgs_cons (pg_name (i := 7) sc_Bridge_through_part.nd rfl (by first | exact Or.inl rfl | exact Or.inr rfl)) (pgs_cons (pg_name (i := 8) sc_Bridge_through_part.nd rfl (by first | exact Or.inl rfl | exact Or.inr rfl)) pgs_nil)))))
  (pss_cons (ps_set (i := 10) sc_Bridge_through_part.nd rfl (by first | exact Or.inl rfl | exact Or.inr rfl) (pe_meth (pv 0) CBl.cl M_noted.me G_noted (hr.mono (by omega)) M_noted.b .nil pass0 (pa_cons (pe_fld (pv 0) rfl) (pa_cons (pv 1) (pa_cons (pv 5) (pa_cons (pe_tup (pa_cons pe_str pa_nil)) pa_nil))))))
  (pss_one (ps_ret (pe_tup (pa_cons (pv 6) (pa_cons (pe_meth (pv 0) CBl.cl M_linked.me G_linked (hr.mono (by omega)) M_linked.b .nil pass0 (pa_cons (pe_fld (pv 0) rfl) (pa_cons (pv 1) (pa_cons (pv 6) (pa_cons (pv 10) (pa_cons (pv 7) pa_nil)))))) (pa_cons (pv 8) pa_nil))))))))))), ?_⟩
  obtain ⟨y, l, r, st⟩ := y
  obtain ⟨hx, q0, q1, q2⟩ := hx
  dsimp only at hx q0 q1 q2 ⊢
  have nr : nol r = true := isT_nol hx.ask.tr.1
  have nl : nol l = true := isT_nol hx.ask.tl.1
  have nomeF : ∀ (g : (WB K y).G) H, (WB K y).I g H → ∃ dx fs, H y.f.sa = some (.ins CF dx fs) ∧ fs.lookup ("reason_for" : Str) = none := fun g H i => ⟨_, _, i.1.2.1 _ y.f.ob, flF_no (by decide +kernel) (by decide +kernel) (by decide +kernel)⟩
  have hs : (rsn l r).isSome = true := by rw [rsn_B hx.ask.tl.1 hx.ask.tr.1 (by decide)]; exact hx.b
  rcases rsn_which q0 q1 q2 hs with ⟨p, hR⟩ | ⟨p, hR⟩
  · obtain ⟨hp, hb⟩ := rsn_right q0 q1 q2 hR
    have eR : rsnD l r = .tuple [.str "right", .list [pairD l p, pairD p r]] := by unfold rsnD; rw [hR]
    have hf := hx.thR hp hb
    have hk := hf.ok
    have np : nol p = true := isT_nol hf.ask.tr.1
    refine x_seq (x_asgG (EvS.to (EvS.asD (ev_meth (ev_free CBl (Emb.self y) rfl) (nomeF _) (av_two (ev_var rfl) (ev_var rfl)) (rc_bfree hx.ask)) eR) (gs_tup rfl (gs_cons (gs_name (gs_cons (gs_name (gs_nil ?_))))))))
    refine x_seq (x_ifD (b := true) (tv_test (ev_eqd (ev_var rfl) ev_str (fit_s (n := 0)) (fit_s (n := 0)) (by decide) (by decide) (by decide +kernel))) (fun _ => ?_) fun z => by cases z)
    refine x_seq (x_asg (EvS.to (ev_idx (ev_idx (ev_var rfl) atl0) at1) ?_))
    refine x_seq (x_asgG (EvS.imp (ev_meth (ev_var rfl) (Emb.self y).nome (av_two (ev_var rfl) (ev_var rfl)) (rc_found hf trivial)) fun s g1 ⟨e1, e2⟩ => ?_))
    unfold thru
    rw [hR]
    dsimp only
    have l2 := hk.l2
    have hlen : st.2.length + 6 * (lv l * lv p) ≤ 100000 := hf.len true
    have tT := hk.tT
    generalize fnd n l p st = m at e1 e2 l2 tT ⊢
    obtain ⟨⟨t, i, j⟩, AA, UU⟩ := m
    dsimp only at e1 e2 l2 tT ⊢
    subst e1
    subst e2
    have nt : nol t = true := isT_nol tT
    refine gs_tup rfl (gs_cons (gs_name (gs_cons (gs_name (gs_cons (gs_name (gs_nil ?_)))))))
    refine x_seq (x_asg (EvS.imp (ev_meth (ev_var rfl) (Emb.self y).nome (av_cons (ev_up CBl (Emb.self y) rfl) (av_cons (ev_var rfl) (av_two (ev_var rfl) (ev_tup (ds := [.str "part"]) (av_one ev_str))))) (rc_noted (P := is _ _) (Emb.self y) true (nol_part np nr) (show UU.length ≤ 100000 by omega) ⟨rfl, rfl⟩)) fun s g1 ⟨e1, e2⟩ => ?_))
    subst e1
    subst e2
    have h2 : (UU ++ [(⟨p, r, wPart⟩ : St3)]).length = UU.length + 1 := by rw [List.length_append]; rfl
    exact x_ret (EvS.imp (ev_tupG (ds := [t, .int (i : Nat), .int ((UU.length + 1 : Nat) : Int)]) (g2 := ((AA, (UU ++ [⟨p, r, wPart⟩]) ++ [⟨t, r, wChain j UU.length⟩]) : S2)) (av_consG (ev_var rfl) (av_consG (ev_var rfl) (av_consG (ev_meth (ev_var rfl) (Emb.self y).nome (av_cons (ev_up CBl (Emb.self y) rfl) (av_cons (ev_var rfl) (av_cons (ev_var rfl) (av_two (ev_var rfl) (ev_var rfl))))) (rc_linked (Emb.self y) true nt nr (show (UU ++ [_]).length ≤ 100000 by rw [h2]; omega) ⟨by rw [← h2]; rfl, rfl⟩)) av_nil)))) fun s g1 ⟨e1, e2⟩ => ⟨e1, by rw [e2]⟩)
  · obtain ⟨hp, hb⟩ := rsn_left q0 q1 q2 hR
    have eR : rsnD l r = .tuple [.str "left", .list [pairD l p, pairD p r]] := by unfold rsnD; rw [hR]
    have hf := hx.thL hp hb
    have hk := hf.ok
    have np : nol p = true := isT_nol hf.ask.tl.1
    refine x_seq (x_asgG (EvS.to (EvS.asD (ev_meth (ev_free CBl (Emb.self y) rfl) (nomeF _) (av_two (ev_var rfl) (ev_var rfl)) (rc_bfree hx.ask)) eR) (gs_tup rfl (gs_cons (gs_name (gs_cons (gs_name (gs_nil ?_))))))))
    refine x_seq (x_ifD (b := false) (tv_test (ev_eqd (ev_var rfl) ev_str (fit_s (n := 0)) (fit_s (n := 0)) (by decide) (by decide) (by decide +kernel))) (fun z => by cases z) fun _ => x_next ?_)
    refine x_seq (x_asg (EvS.to (ev_idx (ev_idx (ev_var rfl) atl0) at1) ?_))
    refine x_seq (x_asgG (EvS.imp (ev_meth (ev_var rfl) (Emb.self y).nome (av_two (ev_var rfl) (ev_var rfl)) (rc_found hf trivial)) fun s g1 ⟨e1, e2⟩ => ?_))
    unfold thru
    rw [hR]
    dsimp only
    have l1 := hk.l1
    have hlen : st.1.length + 6 * (lv p * lv r) ≤ 100000 := hf.len false
    have tT := hk.tT
    generalize fnd n p r st = m at e1 e2 l1 tT ⊢
    obtain ⟨⟨t, i, j⟩, AA, UU⟩ := m
    dsimp only at e1 e2 l1 tT ⊢
    subst e1
    subst e2
    have nt : nol t = true := isT_nol tT
    refine gs_tup rfl (gs_cons (gs_name (gs_cons (gs_name (gs_cons (gs_name (gs_nil ?_)))))))
    refine x_seq (x_asg (EvS.imp (ev_meth (ev_var rfl) (Emb.self y).nome (av_cons (ev_lo CBl (Emb.self y) rfl) (av_cons (ev_var rfl) (av_two (ev_var rfl) (ev_tup (ds := [.str "part"]) (av_one ev_str))))) (rc_noted (P := is _ _) (Emb.self y) false (nol_part nl np) (show AA.length ≤ 100000 by omega) ⟨rfl, rfl⟩)) fun s g1 ⟨e1, e2⟩ => ?_))
    subst e1
    subst e2
    have h2 : (AA ++ [(⟨l, p, wPart⟩ : St3)]).length = AA.length + 1 := by rw [List.length_append]; rfl
    exact x_ret (EvS.imp (ev_tupG (ds := [t, .int ((AA.length + 1 : Nat) : Int), .int (j : Nat)]) (g2 := (((AA ++ [⟨l, p, wPart⟩]) ++ [⟨l, t, wChain AA.length i⟩], UU) : S2)) (av_consG (ev_var rfl) (av_consG (ev_meth (ev_var rfl) (Emb.self y).nome (av_cons (ev_lo CBl (Emb.self y) rfl) (av_cons (ev_var rfl) (av_cons (ev_var rfl) (av_two (ev_var rfl) (ev_var rfl))))) (rc_linked (Emb.self y) false nl nt (show (AA ++ [_]).length ≤ 100000 by rw [h2]; omega) ⟨by rw [← h2]; rfl, rfl⟩)) (av_consG (ev_var rfl) av_nil)))) fun s g1 ⟨e1, e2⟩ => ⟨e1, by rw [e2]⟩)
theorem ok_found (Bt : Blt mg) (CBl : ClB K CB) (CF' : ClF K CF) (M : Brg K CB CF) (D_text_of : Def K mg "text_of" s_text_of p_text_of) : ∀ n, FnOk P w K mg base CX0 (2 * n + 14) M.found.f M.found.fd p_Bridge_found (sp_found K CB CF n (fnd n) cAll) := by
  have B := Bt
  intro n
  induction n with
  | zero =>
    refine fn_void fun x h => ?_
    obtain ⟨a, b, h1, _, hab⟩ := h.1.ask.ab
    have : a = 0 := by omega
    subst this
    simp [isT] at h1
  | succ n ih =>
    have G_over_left := ok_over_left Bt CBl M n ih
    have G_over_right := ok_over_right Bt CBl M n ih
    have G_through_part := ok_through_part Bt CBl CF' M D_text_of n ih
    have G_noted : FnOk P w K mg base CX0 1 M.noted.f M.noted.fd p_Bridge_noted (sp_noted K CB CF) := ok_noted Bt M.noted
    obtain ⟨M_noted, M_linked, M_found, M_over_left, M_over_right, M_through_part, M_is_below, M_reason_for⟩ := M
    refine fn_okG (k := 2 * n + 15) (α := BI CB CF × PyData × PyData × S2) M_found.fn sc_Bridge_found (fun _ => rfl) fun cdv A outer s H E hr y hx => ⟨_, (pss_cons (ps_if (pt_cmpR (w_eqD K hr.units) (pv 1) (pv 2) (nomark _)) (pss_cons (ps_set (i := 3) sc_Bridge_found.nd rfl (by first | exact Or.inl rfl | exact Or.inr rfl) (pe_meth (pv 0) CBl.cl M_noted.me G_noted (hr.mono (by omega)) M_noted.b .nil pass0 (pa_cons (pe_fld (pv 0) rfl) (pa_cons (pv 1) (pa_cons (pv 1) (pa_cons (pe_tup (pa_cons pe_str pa_nil)) pa_nil))))))
  (pss_one (ps_ret (pe_tup (pa_cons (pv 1) (pa_cons (pv 3) (pa_cons (pe_meth (pv 0) CBl.cl M_noted.me G_noted (hr.mono (by omega)) M_noted.b .nil pass0 (pa_cons (pe_fld (pv 0) rfl) (pa_cons (pv 1) (pa_cons (pv 1) (pa_cons (pe_tup (pa_cons pe_str pa_nil)) pa_nil))))) pa_nil))))))) pss_nil)
  (pss_cons (ps_if (pt_cmpR (w_eqD K hr.units) (pe_ix (w_ix K) (pv 1) pe_int (fun _ _ => rfl)) pe_str (nomark _)) (pss_one (ps_ret (pe_meth (pv 0) CBl.cl M_over_left.me G_over_left (hr.mono (by omega)) M_over_left.b .nil pass0 (pa_cons (pv 1) (pa_cons (pv 2) pa_nil))))) pss_nil)
  (pss_cons (ps_if (pt_cmpR (w_eqD K hr.units) (pe_ix (w_ix K) (pv 2) pe_int (fun _ _ => rfl)) pe_str (nomark _)) (pss_one (ps_ret (pe_meth (pv 0) CBl.cl M_over_right.me G_over_right (hr.mono (by omega)) M_over_right.b .nil pass0 (pa_cons (pv 1) (pa_cons (pv 2) pa_nil))))) pss_nil)
  (pss_one (ps_ret (pe_meth (pv 0) CBl.cl M_through_part.me G_through_part (hr.mono (by omega)) M_through_part.b .nil pass0 (pa_cons (pv 1) (pa_cons (pv 2) pa_nil)))))))), ?_⟩
    obtain ⟨y, l, r, st⟩ := y
    obtain ⟨hx, -⟩ := hx
    dsimp only at hx ⊢
    have tl := hx.ask.tl.1
    have tr := hx.ask.tr.1
    have nl : nol l = true := isT_nol tl
    have hl1 : st.1.length + 6 * (lv l * lv r) ≤ 100000 := hx.len false
    have hl2 : st.2.length + 6 * (lv l * lv r) ≤ 100000 := hx.len true
    refine x_seq (x_ifD (b := PyData.eqv l r) (tv_test (ev_eqd (ev_var rfl) (ev_var rfl) (isT_fit tl) (isT_fit tr) (by decide) (by decide) rfl)) (fun q => ?_) fun q0 => x_next ?_)
    · refine x_seq (x_asg (EvS.imp (ev_meth (ev_var rfl) (Emb.self y).nome (av_cons (ev_lo CBl (Emb.self y) rfl) (av_cons (ev_var rfl) (av_two (ev_var rfl) (ev_tup (ds := [.str "same"]) (av_one ev_str))))) (rc_noted (P := is _ _) (Emb.self y) false (nol_part nl nl) (show st.1.length ≤ 100000 by omega) ⟨rfl, rfl⟩)) fun s g1 ⟨e1, e2⟩ => ?_))
      subst e1
      subst e2
      refine x_ret (EvS.imp (ev_tupG (ds := [l, .int (st.1.length : Nat), .int (st.2.length : Nat)]) (g2 := ((st.1 ++ [⟨l, l, wSame⟩], st.2 ++ [⟨l, l, wSame⟩]) : S2)) (av_consG (ev_var rfl) (av_consG (ev_var rfl) (av_consG (ev_meth (ev_var rfl) (Emb.self y).nome (av_cons (ev_up CBl (Emb.self y) rfl) (av_cons (ev_var rfl) (av_two (ev_var rfl) (ev_tup (ds := [.str "same"]) (av_one ev_str))))) (rc_noted (Emb.self y) true (nol_part nl nl) (show st.2.length ≤ 100000 by omega) ⟨rfl, rfl⟩)) av_nil)))) fun s g1 ⟨e1, e2⟩ => ?_)
      show _ = Sl.dat (fnd (n + 1) l r st).1.d ∧ _ = (fnd (n + 1) l r st).2
      unfold fnd
      rw [if_pos q]
      exact ⟨e1, e2⟩
    refine x_seq (x_ifD (tv_op tl opB (ev_var rfl)) (fun q1 => ?_) fun q1 => x_next ?_)
    · refine x_ret (EvS.imp (ev_meth (ev_var rfl) (Emb.self y).nome (av_two (ev_var rfl) (ev_var rfl)) (rc_found hx ⟨q0, q1⟩)) fun s g1 ⟨e1, e2⟩ => ?_)
      show _ = Sl.dat (fnd (n + 1) l r st).1.d ∧ _ = (fnd (n + 1) l r st).2
      unfold fnd
      rw [if_neg (by rw [q0]; decide), if_pos q1]
      exact ⟨e1, e2⟩
    refine x_seq (x_ifD (tv_op tr opA (ev_var rfl)) (fun q2 => ?_) fun q2 => x_next ?_)
    · refine x_ret (EvS.imp (ev_meth (ev_var rfl) (Emb.self y).nome (av_two (ev_var rfl) (ev_var rfl)) (rc_found hx ⟨q0, q1, q2⟩)) fun s g1 ⟨e1, e2⟩ => ?_)
      show _ = Sl.dat (fnd (n + 1) l r st).1.d ∧ _ = (fnd (n + 1) l r st).2
      unfold fnd
      rw [if_neg (by rw [q0]; decide), if_neg (by rw [q1]; decide), if_pos q2]
      exact ⟨e1, e2⟩
    · refine x_ret (EvS.imp (ev_meth (ev_var rfl) (Emb.self y).nome (av_two (ev_var rfl) (ev_var rfl)) (rc_found hx ⟨q0, q1, q2⟩)) fun s g1 ⟨e1, e2⟩ => ?_)
      show _ = Sl.dat (fnd (n + 1) l r st).1.d ∧ _ = (fnd (n + 1) l r st).2
      unfold fnd
      rw [if_neg (by rw [q0]; decide), if_neg (by rw [q1]; decide), if_neg (by rw [q2]; decide)]
      exact ⟨e1, e2⟩
end
end Z
/-! errors -/
namespace Z
open PySem L2
/-! ### C() of an own error class without arguments; C.m(..) -/
def tMkO0 (C : Addr) (sp : Sp) : St → Hp → XK → Prop := fun _ H Q => ∀ a, H a = none → sp [.ref a] (upd H a (exo a C none))
  (fun v H2 => v = .non ∧ ∃ (d : Addr) (fs : List (Str × V)), H2 a = some (exo a C (some d)) ∧ H2 d = some (exd d fs) ∧ H d = none ∧ Q (.ref C) (some d) (upd (del H2 a) d (.xd fs))) (fun _ _ _ => False)
section
open PySem.Spec PyProof.Rows
variable {X : Cx} {CX : CXT} {x m : Str} {p p1 p2 pos : Pos} {e : Expr} {es : List Expr} {ta : TA} {C g fI : Addr} {k : Nat} {fd : FuncData} {ps : List Str} {sp : Sp} {E : XK} {mc : Value}
theorem pmk_oex0 (T : OexC X.K C) (iC : PySem.W.findIn X.K (.ref C) "__init__" = some (some (.ref fI))) (tI : PySem.W.typeIn X.K (.ref fI) = some (.type "function"))
    (F1 : FnOk X.prog X.w X.K X.mg X.base CX k fI fd ps sp) (hr : Room (k + 1) X.A) (hb : Binds X.K fd ps []) (hx : Passes CX X (fun _ _ _ => False)) (hg : Gl X x) (hm : X.mg x = some (.ref C))
    (hdb : (x == ("__debug__" : Str)) = false := by decide) : PMk X (.Call (.Name x p) [] [] pos) (tMkO0 C sp) := by
  intro pins s σ H Q I h
  obtain ⟨nm, q, N, bs, bm, sn, sub, ab, col, dd, k0, k1, k2, k3, k5, hC, hbm⟩ := T.cls
  refine wpAny_Call_Name_kw (ld_glob I hg hm ?_ hdb)
  refine PySem.W.callWith_K0 I.kIn T.kC ?_
  show wpAny _ _ (call (.ref C) []) _ _ _
  obtain ⟨hp, gg, dr, tk, os⟩ := s
  have hsz : hp.objs.size ≤ hp.objs.size + 1 := Nat.le_succ _
  have hq := h (hp.objs.size + 1) (I.hok.fresh hsz)
  have kk : ∀ b o, hp.get? b = some o → ((hp.push (PySem.W.kdv_tup [])).push (PySem.HandSPX.excO C hp.objs.size)).get? b = some o := fun b o e => Heap.get?_push_of_some _ (Heap.get?_push_of_some _ e)
  have hget : ((hp.push (PySem.W.kdv_tup [])).push (PySem.HandSPX.excO C hp.objs.size)).get? (hp.objs.size + 1) = some (PySem.HandSPX.excO C hp.objs.size) := by heap_get
  have I2 : Inv X pins σ (upd H (hp.objs.size + 1) (exo (hp.objs.size + 1) C none)) ⟨(hp.push (PySem.W.kdv_tup [])).push (PySem.HandSPX.excO C hp.objs.size), gg, dr, tk, os⟩ :=
    I.laid (t' := tk) (a := hp.objs.size + 1) (o := exo (hp.objs.size + 1) C none) (h' := (hp.push (PySem.W.kdv_tup [])).push (PySem.HandSPX.excO C hp.objs.size)) kk hsz (exo_ok hget)
  have r2 : Vals [V.ref (hp.objs.size + 1)] [Value.ref (hp.objs.size + 1)] := .cons rfl .nil
  have hl : ([Value.ref (hp.objs.size + 1)] ++ ([] : List Value)).length = ps.length := by
    have e := r2.length
    rw [F1.len _ _ _ _ hq] at e
    exact e.symm
  refine wpAny_call (PySem.HandSPX.call_own F.excBase_ValueError (fun Y => PySem.HandSPX.refsVE_contains Y bm hbm) (I.kIn _ _ hC) (PySem.W.looks_findIn I.kIn iC) (fun self => PySem.W.bind_fn I.kIn self tI) (Nat.zero_le _)
    (codeAny_mono (F1.run _ X.stack _ _ ⟨[Value.ref (hp.objs.size + 1)], []⟩ [Value.ref (hp.objs.size + 1)] _ _ (fun _ _ _ => False) (hr.make C [] []) (I2.env0.make C [] []) (hb _ [Value.ref (hp.objs.size + 1)] I2.kIn hl) r2 hq) fun r s' hq' => ?_))
  cases r with
  | error er => exact hx pins σ _ _ er s' I2 hq'
  | ok fl =>
    cases fl with
    | ret u =>
      obtain ⟨v, H2, os2, bare2, un2, hok2, rv, ev, d, fs, ea, ed, hd1, q2⟩ := hq'
      subst ev
      obtain ⟨h2, g2, d2, t2, os'⟩ := s'
      exact ⟨rv, mk_end (raises_own T.exC T.tyC) I hsz kk un2 hok2 os2 bare2 ea ed hd1 q2⟩
    | next => exact False.elim hq'
    | brk => exact False.elim hq'
    | cont => exact False.elim hq'
theorem pe_clsm {pl : Sem Bool} (hg : Gl X x) (hm : X.mg x = some (.ref C)) (r : ClX.CRead X.K C mc) (hat : PySem.W.findCls X.K (.ref C) mc m = some (.val (.ref g))) (hk : PySem.W.keepIn X.K (.ref g) = true) (F : FnOk X.prog X.w X.K X.mg X.base CX k g fd ps sp) (hr : Room k X.A) (hb : Binds X.K fd ps []) (hx : Passes CX X E)
    (ha : PA X (e :: es) ta) (hdb : (x == ("__debug__" : Str)) = false := by decide)
    (ht : eval (.Call (.Attribute (.Name x p1) m p2) (e :: es) [] pos) X.env = (do
      let ov ← eval (.Name x p1) X.env
      standAt p2.atName
      let (f, first) ← holding [ov] (getMethod ov m pl)
      callWith pos f first (backTo pos (starEach (e :: es) X.env)) (backToKw pos (keywordEach [] X.env))) := by rfl)
    (he : starEach (e :: es) X.env = (false, eval e X.env) :: starEach es X.env := by rfl) (hpl : (backTo pos (starEach es X.env)).any (·.1) = false := by rfl) :
    PE X (.Call (.Attribute (.Name x p1) m p2) (e :: es) [] pos) (tCall sp [] E ta) := by
  refine ⟨fun pins s σ H Q I h => ?_⟩
  refine PySem.W.methodCall_KW (pl := pl) (ld_glob I hg hm ?_ hdb) ht
  refine PySem.W.method_cls I.kIn r.ga (PySem.W.cls_value I.kIn r.rd hat (handed_of (v := .ref g) (u := .ref g) rfl) ?_)
  refine PySem.W.callWith_K (first := []) (h₀ := X.base) I.ok.mod.kin hk (thn (ha.run pos pins _ σ H _ (I.tok _) h) fun us s1 ⟨vs, H1, I1, r1, q⟩ => ⟨I1.kIn, ?_⟩) he hpl
  exact run_fn F hr hb .nil hx I1 r1 q
end
/-- a def with defaults -/
structure DefD (K : PySem.W.Frag) (mg : Str → Option Value) (x : Str) (st : Stmt) (ps : List Str) (dvs : List V) where
  f : Addr
  fd : FuncData
  fn : Fun K x x st f fd
  ds : List Value
  d : Vals dvs ds
  b : Binds K fd ps ds
  g : mg x = some (.ref f)
/-- the error classes -/
structure ErrF (K : PySem.W.Frag) (mg : Str → Option Value) where
  cF : Addr
  cI : Addr
  cM : Addr
  cL : Addr
  cFg : mg "FaultError" = some (.ref cF)
  cIg : mg "InvalidTerm" = some (.ref cI)
  cMg : mg "Missing" = some (.ref cM)
  cLg : mg "NothingLeft" = some (.ref cL)
  oI : OexC K cI
  fI : Addr
  fdI : FuncData
  initI : PySem.W.findIn K (.ref cI) "__init__" = some (some (.ref fI))
  tI : PySem.W.typeIn K (.ref fI) = some (.type "function")
  fnI : Fun K "__init__" "InvalidTerm.__init__" s_InvalidTerm_init fI fdI
  bI : Binds K fdI p_InvalidTerm_init []
  mc : Value
  rdF : ClX.CRead K cF mc
  fF : Addr
  fdF : FuncData
  atF : PySem.W.findCls K (.ref cF) mc "__init__" = some (.val (.ref fF))
  fnF : Fun K "__init__" "FaultError.__init__" s_FaultError_init fF fdF
  kpF : PySem.W.keepIn K (.ref fF) = true
  bF : Binds K fdF p_FaultError_init []
  noC : PySem.W.findIn K (.ref cI) "code" = some none
  ve : mg "ValueError" = none
  vV : PySem.W.findCls K (.type "ValueError") (.type "type") "__init__" = some (.val (.builtin "ValueError.__init__"))
  xf : XfC K cI
  isF : PySem.W.exmOne K (.ref cI) (.ref cF) = some true
abbrev INV : Str := "InvalidTerm"
section
variable {P : Program} {w : World} {K : PySem.W.Frag} {mg : Str → Option Value} {base : Heap}
def sp_FErr (K : PySem.W.Frag) (cI : Addr) : Sp := fun vs H Q _ => ∃ (a : Addr) (c : Str), vs = [.ref a, .str c] ∧ H a = some (exo a cI none) ∧ ∀ dx, H dx = none → dx ≠ a → Q .non (upd (upd H dx (exd dx [("code", .str c)])) a (exo a cI (some dx)))
def sp_IErr (K : PySem.W.Frag) (cI : Addr) : Sp := fun vs H Q _ => ∃ (a : Addr), vs = [.ref a] ∧ H a = some (exo a cI none) ∧ ∀ dx, H dx = none → dx ≠ a → Q .non (upd (upd H dx (exd dx [("code", .str INV)])) a (exo a cI (some dx)))
theorem ok_FErr (Er : ErrF K mg) : FnOk P w K mg base CX0 1 Er.fF Er.fdF p_FaultError_init (sp_FErr K Er.cI) := by
  refine Er.fnF.ok sc_FaultError_init (fun vs H Q E ⟨a, c, h, _⟩ => by rw [h]; rfl) fun cdv A outer s H vs Q E hr ⟨a, c, hv, ha, q⟩ => ⟨_, (pss_cons (ps_expr (pe_veinit (by rfl) Er.ve Er.vV (pa_cons (pv 0) (pa_cons (pv 1) pa_nil))))
  (pss_one (ps_ost (pv 0) (pv 1)))), ?_⟩
  subst hv
  exact ⟨_, rfl, _, rfl, a, Er.cI, [.str c], rfl, by show 1 ≤ 1000; decide, Er.oI, ha, ⟨_, rfl, _, rfl, a, Er.cI, rfl, Er.oI, Er.noC, .inl ⟨ha, fun dx n ne => q dx n ne⟩⟩⟩
theorem ok_IErr (Er : ErrF K mg) : FnOk P w K mg base CX0 2 Er.fI Er.fdI p_InvalidTerm_init (sp_IErr K Er.cI) := by
  have G_FErr : FnOk P w K mg base CX0 1 Er.fF Er.fdF p_FaultError_init (sp_FErr K Er.cI) := ok_FErr Er
  refine Er.fnI.ok sc_InvalidTerm_init (fun vs H Q E ⟨a, h, _⟩ => by rw [h]; rfl) fun cdv A outer s H vs Q E hr ⟨a, hv, ha, q⟩ => ⟨_, (pss_one (ps_expr (pe_clsm (by rfl) Er.cFg Er.rdF Er.atF Er.kpF G_FErr (hr.mono (by omega)) Er.bF pass0 (pa_cons (pv 0) (pa_cons pe_str pa_nil))))), ?_⟩
  subst hv
  exact ⟨_, rfl, ⟨a, INV, rfl, ha, fun dx n ne => q dx n ne⟩⟩
/-! ### is_term, need_term -/
section
variable {W : Wd} {δ : List Sl} {g : W.G} {P : Sl → W.G → Prop} {E : XK} {tA : TA} {sp : Sp}
theorem RelSs.app {N : Addr → Prop} {H : Hp} : ∀ {vs ws : List V} {ss ts : List Sl}, RelSs K N H vs ss → RelSs K N H ws ts → RelSs K N H (vs ++ ws) (ss ++ ts)
  | _, _, _, _, .nil, b => b
  | _, _, _, _, .cons h t, b => .cons h (RelSs.app t b)
theorem ev_callV {dvs : List V} {ss dss : List Sl} (hd : ∀ H, RelSs K W.N H dvs dss) (h : AvS K W tA δ g (isA ss g)) (hr : RcS K W (fun vs H Q => sp vs H Q E) (ss ++ dss) g P) : EvS K W (tCall sp dvs E tA) δ g P := fun σ H i f Q q =>
  h σ H i f _ fun vs ss' g1 H1 e1 i1 rs ⟨a, b⟩ => by
    subst a; subst b
    exact hr _ H1 i1 (RelSs.app rs (hd H1)) Q fun v s g2 H2 e2 i2 r2 p2 => q v s g2 H2 (e1.trans e2) i2 r2 p2
end
abbrev dv_is_term : List V := [.int 5, .int 24]
abbrev sp_is_term (K : PySem.W.Frag) : Sp := spP K (β := PyData) (fun d => [.dat d, .dat (.int 5), .dat (.int 24)]) (fun d => shorts d = true) (fun d s => s = .dat (.bool (isTerm d)))
theorem ok_is_term (B : Blt mg) (C : Cns K mg) (D_is_term : DefD K mg "is_term" s_is_term p_is_term dv_is_term) (D_measured : Def K mg "measured" s_measured p_measured) (D_is_letter : Def K mg "is_letter" s_is_letter p_is_letter) : FnOk P w K mg base CX0 9 D_is_term.f D_is_term.fd p_is_term (sp_is_term K) := by
  have G_measured : FnOk P w K mg base CX0 8 D_measured.f D_measured.fd p_measured (sp_measured K 6) := ok_measured B C D_measured D_is_letter 6
  refine fn_okP D_is_term.fn sc_is_term (fun _ => rfl) fun cdv A outer s H E hr N d h => ⟨_, (pss_one (ps_ret (pe_chain op_le op_le pe_int (pe_call G_measured (hr.mono (by omega)) rfl D_measured.g D_measured.fn.kp D_measured.b .nil pass0 (pa_cons (pv 0) (pa_cons (pv 1) pa_nil))) (pv 2)))), ?_⟩
  exact x_ret (EvS.to (EvS.asD (ev_chain ev_int (s2 := .dat (.int (meas 5 d : Nat))) (ev_callD (av_two (ev_var rfl) (ev_var rfl)) (rc_spP (d, 5) rfl ⟨h, show 5 < 6 by decide⟩ fun s e => ⟨e, rfl⟩)) rv_le (fun _ => ev_var rfl) fun _ => rv_le) (congrArg PyData.bool (fits_dec d))) rfl)
theorem dv_rel {N : Addr → Prop} (H : Hp) : RelSs K N H dv_is_term [.dat (.int 5), .dat (.int 24)] := .cons (Da.int 5) (.cons (Da.int 24) .nil)
abbrev sp_need (K : PySem.W.Frag) : Sp := spP K (β := PyData) (fun d => [.dat d]) (fun d => shorts d = true ∧ isTerm d = true) (fun d s => s = .dat .none)
theorem ok_need (B : Blt mg) (C : Cns K mg) (Er : ErrF K mg) (D_need_term : Def K mg "need_term" s_need_term p_need_term) (D_is_term : DefD K mg "is_term" s_is_term p_is_term dv_is_term) (D_measured : Def K mg "measured" s_measured p_measured) (D_is_letter : Def K mg "is_letter" s_is_letter p_is_letter) :
    FnOk P w K mg base CX0 10 D_need_term.f D_need_term.fd p_need_term (sp_need K) := by
  have G_is_term : FnOk P w K mg base CX0 9 D_is_term.f D_is_term.fd p_is_term (sp_is_term K) := ok_is_term B C D_is_term D_measured D_is_letter
  have G_IErr : FnOk P w K mg base CX0 2 Er.fI Er.fdI p_InvalidTerm_init (sp_IErr K Er.cI) := ok_IErr Er
  refine fn_okP D_need_term.fn sc_need_term (fun _ => rfl) fun cdv A outer s H E hr N d h => ⟨_, (pss_one (ps_if (pt_not (pt_val (pe_call G_is_term (hr.mono (by omega)) rfl D_is_term.g D_is_term.fn.kp D_is_term.b D_is_term.d pass0 (pa_cons (pv 0) pa_nil)))) (pss_one (ps_raise rfl takes0 (pmk_oex0 Er.oI Er.initI Er.tI G_IErr (hr.mono (by omega)) Er.bI pass0 (by rfl) Er.cIg))) pss_nil)), ?_⟩
  refine x_ifD (b := false) (tv_not (a := true) (tv_B (EvS.asD (ev_callV dv_rel (av_one (ev_var rfl)) (rc_spP d rfl h.1 fun s e => ⟨e, rfl⟩)) (by rw [h.2])))) (fun z => by cases z) fun _ => x_next rfl
/-- what an error leaves: its dict -/
def ErrAt (H : Hp) (E : XK) (cI : Addr) : Prop := ∀ (dd : Addr) (fs : List (Str × V)) (H' : Hp), Same H H' → H dd = none → H' dd = some (.xd fs) → fs.lookup ("code" : Str) = some (.str INV) → E (.ref cI) (some dd) H'
def sp_needX (K : PySem.W.Frag) (cI : Addr) : Sp := fun vs H Q E => ∃ (N : Addr → Prop) (d : PyData), (∀ a, N a → ∃ o, H a = some o) ∧ RelSs K N H vs [.dat d] ∧ shorts d = true ∧ (isTerm d = true → ∀ H', Same H H' → Q .non H') ∧ (isTerm d = false → ErrAt H E cI)
theorem stp_pw {N : Addr → Prop} {H H' : Hp} (s : Stp (PW N) H H') : Same H H' := fun a o h => s.keep a o (fun z => z) h
theorem ErrAt.same {H H1 : Hp} {E : XK} {cI : Addr} (h : ErrAt H E cI) (s : Same H H1) : ErrAt H1 E cI := fun dd fs H' s' n a b => h dd fs H' (fun x o q => s' x o (s x o q)) (by
  cases q : H dd with
  | none => rfl
  | some o => rw [s dd o q] at n; cases n) a b
theorem ok_needX (B : Blt mg) (C : Cns K mg) (Er : ErrF K mg) (D_need_term : Def K mg "need_term" s_need_term p_need_term) (D_is_term : DefD K mg "is_term" s_is_term p_is_term dv_is_term) (D_measured : Def K mg "measured" s_measured p_measured) (D_is_letter : Def K mg "is_letter" s_is_letter p_is_letter) :
    FnOk P w K mg base (L2.CX P w) 10 D_need_term.f D_need_term.fd p_need_term (sp_needX K Er.cI) := by
  have G_is_term : FnOk P w K mg base CX0 9 D_is_term.f D_is_term.fd p_is_term (sp_is_term K) := ok_is_term B C D_is_term D_measured D_is_letter
  have G_IErr : FnOk P w K mg base CX0 2 Er.fI Er.fdI p_InvalidTerm_init (sp_IErr K Er.cI) := ok_IErr Er
  refine D_need_term.fn.okX sc_need_term (fun vs H Q E ⟨N, d, _, h, _⟩ => by rw [Paired.length h]; rfl) fun cdv A outer s H vs Q E hr ⟨N, d, hN, hv, hs, q1, q2⟩ => ⟨_, (pss_one (ps_if (pt_not (pt_val (pe_call G_is_term (hr.mono (by omega)) rfl D_is_term.g D_is_term.fn.kp D_is_term.b D_is_term.d pass0 (pa_cons (pv 0) pa_nil)))) (pss_one (ps_raise rfl (takes_of rfl rfl rfl rfl) (pmk_oex0 Er.oI Er.initI Er.tI G_IErr (hr.mono (by omega)) Er.bI pass0 (by rfl) Er.cIg))) pss_nil)), ?_⟩
  have key : TvD K (PW N) _ _ () (!isTerm d) := tv_not (tv_B (ev_callV (E := E0) (sp := sp_is_term K) dv_rel (av_one (ev_var (δ := startS n_need_term [.dat d]) (i := 0) rfl)) (rc_spP d rfl hs fun s e => ⟨e, rfl⟩)))
  refine key (L2.start n_need_term vs) H hN (fr_start hv) _ fun b g' H' e i' ⟨hb, _⟩ => ?_
  have sm := stp_pw e
  cases ht : isTerm d with
  | true =>
    rw [ht] at hb
    subst hb
    exact q1 ht H' sm
  | false =>
    rw [ht] at hb
    subst hb
    intro a ha
    refine ⟨a, rfl, upd_same, fun dx hdx hne => ⟨rfl, dx, [("code", .str INV)], upd_same, ?_, ?_, ?_⟩⟩
    · rw [upd_ne hne, upd_same]
    · rw [upd_ne hne] at hdx
      exact hdx
    · have hdx' : H' dx = none := by rw [upd_ne hne] at hdx; exact hdx
      refine q2 ht dx [("code", .str INV)] _ (fun x o q => ?_) (Stp.fresh e hdx') upd_same ?_
      · have q' := sm x o q
        rw [upd_ne (ne_of_none q' hdx'), del_ne (ne_of_none q' ha), upd_ne (ne_of_none q' ha), upd_ne (ne_of_none q' hdx'), upd_ne (ne_of_none q' ha)]
        exact q'
      · rw [lk_put, if_pos rfl]
end
end Z
/-! Free(), Bridge(), between -/
namespace Z
open PySem L2
structure Ini (K : PySem.W.Frag) (qual : Str) (st : Stmt) (ps : List Str) where
  f : Addr
  fd : FuncData
  fn : Fun K "__init__" qual st f fd
  b : Binds K fd ps []
structure BrF (K : PySem.W.Frag) (mg : Str → Option Value) (CB CF : Addr) where
  gF : mg "Free" = some (.ref CF)
  gB : mg "Bridge" = some (.ref CB)
  iF : Ini K "Free.__init__" s_Free_init p_Free_init
  iB : Ini K "Bridge.__init__" s_Bridge_init p_Bridge_init
  mkF : Mk K CF iF.f
  mkB : Mk K CB iB.f
  cF : ClF K CF
  cB : ClB K CB
def sp_FreeI (C : Addr) : Sp := fun vs H Q _ => ∃ a dx : Addr, vs = [.ref a] ∧ H a = some (.ins C dx []) ∧ ∀ (kd ld pd : Addr) (H' : Hp), H kd = none → H ld = none → H pd = none → H' a = some (.ins C dx (flF kd ld pd)) → H' kd = some (.dK []) → (∀ b o, b ≠ a → H b = some o → H' b = some o) → Q .non H'
structure BrN (H H' : Hp) (CB CF b dxb sa dx kd ld pd la ua : Addr) : Prop where
  hb : H' b = some (.ins CB dxb (flB sa la ua))
  hsa : H' sa = some (.ins CF dx (flF kd ld pd))
  hkd : H' kd = some (.dK [])
  hla : H' la = some (.lst [])
  hua : H' ua = some (.lst [])
  nsa : H sa = none
  nkd : H kd = none
  nla : H la = none
  nua : H ua = none
  lu : la ≠ ua
  keep : ∀ x o, x ≠ b → H x = some o → H' x = some o
def sp_BrI (CB CF : Addr) : Sp := fun vs H Q _ => ∃ b dxb : Addr, vs = [.ref b] ∧ H b = some (.ins CB dxb []) ∧ ∀ (sa dx kd ld pd la ua : Addr) (H' : Hp), BrN H H' CB CF b dxb sa dx kd ld pd la ua → Q .non H'
section
variable {P : Program} {w : World} {K : PySem.W.Frag} {mg : Str → Option Value} {base : Heap} {CB CF : Addr}
theorem flF_put (kd ld pd : V) : putF "place" pd (putF "steps" ld (putF "known" kd [])) = [(("known" : Str), kd), ("steps", ld), ("place", pd)] := by
  rw [putF, putF, if_neg (by decide +kernel), putF, putF, if_neg (by decide +kernel), putF, if_neg (by decide +kernel), putF]
theorem flB_put (sa la ua : V) : putF "upper_steps" ua (putF "lower_steps" la (putF "free" sa [])) = [(("free" : Str), sa), ("lower_steps", la), ("upper_steps", ua)] := by
  rw [putF, putF, if_neg (by decide +kernel), putF, putF, if_neg (by decide +kernel), putF, if_neg (by decide +kernel), putF]
theorem putF_len1 (f : Str) (x : V) : (putF f x []).length < 1000 := by rw [putF]; show 1 < 1000; decide
theorem putF_len2 (f g : Str) (x y : V) : (putF g y (putF f x [])).length < 1000 := by
  have h1 := length_putF g y (putF f x [])
  rw [show (putF f x []).length = 1 from rfl] at h1
  omega
theorem ok_FreeI (Br : BrF K mg CB CF) : FnOk P w K mg base CX0 1 Br.iF.f Br.iF.fd p_Free_init (sp_FreeI CF) := by
  refine Br.iF.fn.ok sc_Free_init (fun vs H Q E ⟨a, _, h, _⟩ => by rw [h]; rfl) fun cdv A outer s H vs Q E hr ⟨a, dx, hv, ha, q⟩ => ⟨_, (pss_cons (ps_fld (pv 0) pe_dnewK rfl)
  (pss_cons (ps_fld (pv 0) (pe_lst pa_nil) rfl)
  (pss_one (ps_fld (pv 0) pe_dnewK rfl)))), ?_⟩
  subst hv
  intro kd hkd
  have nk : kd ≠ a := fun z => by rw [z, ha] at hkd; cases hkd
  refine ⟨_, rfl, a, CF, dx, [], rfl, by rw [upd_ne nk.symm]; exact ha, Br.cF.cl, Br.cF.known, by decide, Nat.zero_le _, fun ld hld => ?_⟩
  have nl : ld ≠ a := fun z => by rw [z, upd_same] at hld; cases hld
  have hld1 : H ld = none := by
    have nlk : ld ≠ kd := fun z => by rw [z, upd_ne nk, upd_same] at hld; cases hld
    rw [upd_ne nl, upd_ne nlk] at hld
    exact hld
  refine ⟨_, rfl, a, CF, dx, _, rfl, by rw [upd_ne nl.symm, upd_same], Br.cF.cl, Br.cF.steps, putF_len1 _ _, fun pd hpd => ?_⟩
  have np : pd ≠ a := fun z => by rw [z, upd_same] at hpd; cases hpd
  have hpd1 : upd H kd (.dK []) pd = none := by
    have npl : pd ≠ ld := fun z => by rw [z, upd_ne nl, upd_same] at hpd; cases hpd
    rw [upd_ne np, upd_ne npl, upd_ne np] at hpd
    exact hpd
  have npk : pd ≠ kd := fun z => by rw [z, upd_same] at hpd1; cases hpd1
  refine ⟨_, rfl, a, CF, dx, _, rfl, by rw [upd_ne np.symm, upd_same], Br.cF.cl, Br.cF.place, putF_len2 _ _ _ _, ?_⟩
  have nlk : ld ≠ kd := fun z => by rw [z, upd_ne nk, upd_same] at hld; cases hld
  refine q kd ld pd _ hkd hld1 (by rw [upd_ne npk] at hpd1; exact hpd1) (by rw [upd_same, flF_put]) ?_ fun b o nb hb => ?_
  · rw [upd_ne nk, upd_ne npk.symm, upd_ne nk, upd_ne nlk.symm, upd_ne nk, upd_same]
  · rw [upd_ne nb, upd_ne (ne_of_none hb (by rw [upd_ne npk] at hpd1; exact hpd1)), upd_ne nb, upd_ne (ne_of_none hb hld1), upd_ne nb, upd_ne (ne_of_none hb hkd)]
    exact hb
theorem ok_BrI (Br : BrF K mg CB CF) : FnOk P w K mg base CX0 3 Br.iB.f Br.iB.fd p_Bridge_init (sp_BrI CB CF) := by
  have G_FreeI : FnOk P w K mg base CX0 1 Br.iF.f Br.iF.fd p_Free_init (sp_FreeI CF) := ok_FreeI Br
  refine Br.iB.fn.ok sc_Bridge_init (fun vs H Q E ⟨a, _, h, _⟩ => by rw [h]; rfl) fun cdv A outer s H vs Q E hr ⟨b, dxb, hv, hb, q⟩ => ⟨_, (pss_cons (ps_fld (pv 0) (pe_make0 Br.mkF G_FreeI (hr.mono (by omega)) (by rfl) Br.gF Br.iF.b .nil pass0) rfl)
  (pss_cons (ps_fld (pv 0) (pe_lst pa_nil) rfl)
  (pss_one (ps_fld (pv 0) (pe_lst pa_nil) rfl)))), ?_⟩
  subst hv
  intro sa dx hsa hdx hne
  have hsa' : H sa = none := hsa
  have hdx' : H dx = none := hdx
  refine ⟨sa, dx, rfl, upd_same, fun kd ld pd H1 nkd nld npd h1 h2 h3 => ⟨rfl, ?_⟩⟩
  have st1 : ∀ x o, H x = some o → H1 x = some o := fun x o hx => h3 x o (ne_of_none hx hsa') (by rw [upd_ne (ne_of_none hx hsa'), upd_ne (ne_of_none hx hdx')]; exact hx)
  have nkd' : H kd = none := by
    have n1 : kd ≠ sa := fun z => by rw [z, upd_same] at nkd; cases nkd
    have n2 : kd ≠ dx := fun z => by rw [z, upd_ne hne, upd_same] at nkd; cases nkd
    rw [upd_ne n1, upd_ne n2] at nkd
    exact nkd
  have nks : kd ≠ sa := fun z => by rw [z, h1] at h2; cases h2
  have hb1 : H1 b = some (.ins CB dxb []) := st1 b _ hb
  have nbs : sa ≠ b := fun z => by rw [z, hb] at hsa'; cases hsa'
  have nbk : kd ≠ b := fun z => by rw [z, hb] at nkd'; cases nkd'
  refine ⟨_, rfl, b, CB, dxb, [], rfl, hb1, Br.cB.cl, Br.cB.free, by decide, Nat.zero_le _, fun la hla => ?_⟩
  have nlb : la ≠ b := fun z => by rw [z, upd_same] at hla; cases hla
  have hla1 : H1 la = none := by rw [upd_ne nlb] at hla; exact hla
  refine ⟨_, rfl, b, CB, dxb, _, rfl, by rw [upd_ne nlb.symm, upd_same], Br.cB.cl, Br.cB.lower_steps, putF_len1 _ _, Nat.zero_le _, fun ua hua => ?_⟩
  have nub : ua ≠ b := fun z => by rw [z, upd_same] at hua; cases hua
  have nul : ua ≠ la := fun z => by rw [z, upd_ne nlb, upd_same] at hua; cases hua
  have hua1 : H1 ua = none := by rw [upd_ne nub, upd_ne nul, upd_ne nub] at hua; exact hua
  refine ⟨_, rfl, b, CB, dxb, _, rfl, by rw [upd_ne nub.symm, upd_same], Br.cB.cl, Br.cB.upper_steps, putF_len2 _ _ _ _, ?_⟩
  have back : ∀ {x : Addr}, H1 x = none → H x = none := fun {x} n => by
    cases q : H x with
    | none => rfl
    | some o => rw [st1 x o q] at n; cases n
  have far : ∀ {x : Addr}, x ≠ b → x ≠ la → x ≠ ua → upd (upd (upd (upd (upd H1 b (.ins CB dxb (putF "free" (.ref sa) []))) la (.lst [])) b (.ins CB dxb (putF "lower_steps" (.ref la) (putF "free" (.ref sa) [])))) ua (.lst [])) b (.ins CB dxb (putF "upper_steps" (.ref ua) (putF "lower_steps" (.ref la) (putF "free" (.ref sa) [])))) x = H1 x := fun {x} n1 n2 n3 => by
    rw [upd_ne n1, upd_ne n3, upd_ne n1, upd_ne n2, upd_ne n1]
  refine q sa dx kd ld pd la ua _ ⟨by rw [upd_same, flB_put], ?_, ?_, ?_, ?_, hsa', nkd', back hla1, back hua1, nul.symm, fun x o nx hx => ?_⟩
  · refine (far nbs ?_ ?_).trans h1
    · exact fun z => by rw [← z, h1] at hla1; cases hla1
    · exact fun z => by rw [← z, h1] at hua1; cases hua1
  · refine (far nbk ?_ ?_).trans h2
    · exact fun z => by rw [← z, h2] at hla1; cases hla1
    · exact fun z => by rw [← z, h2] at hua1; cases hua1
  · rw [upd_ne nlb, upd_ne nul.symm, upd_ne nlb, upd_same]
  · rw [upd_ne nub, upd_same]
  · have hx1 := st1 x o hx
    exact (far nx (ne_of_none hx1 hla1) (ne_of_none hx1 hua1)).trans hx1
/-! ### between -/
/-! the bridge's record after Bridge() -/
section
variable {N : Addr → Prop} {b dxb sa dx kd ld pd la ua : Addr} {H H' : Hp} {l r : PyData}
theorem BrN.sk (n : BrN H H' CB CF b dxb sa dx kd ld pd la ua) : sa ≠ kd := fun z => by have h1 := n.hsa; rw [z, n.hkd] at h1; cases h1
theorem BrN.bk (n : BrN H H' CB CF b dxb sa dx kd ld pd la ua) : b ≠ kd := fun z => by have h1 := n.hb; rw [z, n.hkd] at h1; cases h1
theorem BrN.lk (n : BrN H H' CB CF b dxb sa dx kd ld pd la ua) : la ≠ kd := fun z => by have h1 := n.hla; rw [z, n.hkd] at h1; cases h1
theorem BrN.uk (n : BrN H H' CB CF b dxb sa dx kd ld pd la ua) : ua ≠ kd := fun z => by have h1 := n.hua; rw [z, n.hkd] at h1; cases h1
theorem BrN.sl (n : BrN H H' CB CF b dxb sa dx kd ld pd la ua) : sa ≠ la := fun z => by have h1 := n.hsa; rw [z, n.hla] at h1; cases h1
theorem BrN.su (n : BrN H H' CB CF b dxb sa dx kd ld pd la ua) : sa ≠ ua := fun z => by have h1 := n.hsa; rw [z, n.hua] at h1; cases h1
theorem BrN.bl (n : BrN H H' CB CF b dxb sa dx kd ld pd la ua) : b ≠ la := fun z => by have h1 := n.hb; rw [z, n.hla] at h1; cases h1
theorem BrN.bu (n : BrN H H' CB CF b dxb sa dx kd ld pd la ua) : b ≠ ua := fun z => by have h1 := n.hb; rw [z, n.hua] at h1; cases h1
abbrev brObs (CB CF b dxb sa dx kd ld pd la ua : Addr) : List (Addr × HO) := [(sa, .ins CF dx (flF kd ld pd)), (b, .ins CB dxb (flB sa la ua))]
theorem br_obs {Q : Addr → Prop} (h1 : Q sa) (h2 : Q b) : ∀ p ∈ brObs CB CF b dxb sa dx kd ld pd la ua, Q p.1 := fun p hp => by
  simp only [List.mem_cons, List.not_mem_nil, or_false] at hp
  rcases hp with rfl | rfl
  · exact h1
  · exact h2
abbrev brN (N : Addr → Prop) (b sa kd la ua : Addr) : Addr → Prop := fun a => N a ∨ a ∈ [kd, sa, b, la, ua]
def mkMI (N : Addr → Prop) (n : BrN H H' CB CF b dxb sa dx kd ld pd la ua) (hl : isT 5 l = true) (hr : isT 5 r = true) (sz : (wk l).length * (wk r).length ≤ 100000) : MI where
  N := brN N b sa kd la ua
  kd := kd
  l0 := l
  r0 := r
  obs := brObs CB CF b dxb sa dx kd ld pd la ua
  hk := .inr (by simp)
  ho := br_obs (Q := brN N b sa kd la ua) (.inr (by simp)) (.inr (by simp))
  hd := br_obs (Q := fun a => a ≠ kd) n.sk n.bk
  n0 := 5
  m0 := 5
  h1 := hl
  h2 := hr
  sz := sz
def mkFI (N : Addr → Prop) (n : BrN H H' CB CF b dxb sa dx kd ld pd la ua) (hl : isT 5 l = true) (hr : isT 5 r = true) (sz : (wk l).length * (wk r).length ≤ 100000) : FI CF where
  x := mkMI N n hl hr sz
  sa := sa
  dx := dx
  ld := ld
  pd := pd
  ob := by
    show _ ∈ brObs CB CF b dxb sa dx kd ld pd la ua
    simp [mkMI]
def mkBI (N : Addr → Prop) (n : BrN H H' CB CF b dxb sa dx kd ld pd la ua) (hl : isT 5 l = true) (hr : isT 5 r = true) (sz : (wk l).length * (wk r).length ≤ 100000) : BI CB CF where
  f := mkFI N n hl hr sz
  ba := b
  dxb := dxb
  ad := fun u => if u then ua else la
  ob := by
    show _ ∈ brObs CB CF b dxb sa dx kd ld pd la ua
    simp [mkFI]
  hA := fun u => .inr (by cases u <;> simp)
  hK := fun u => by
    cases u with
    | false => exact n.lk
    | true => exact n.uk
  hne := n.lu
  hO := fun u => by
    cases u with
    | false => exact br_obs (Q := fun a => a ≠ la) n.sl n.bl
    | true => exact br_obs (Q := fun a => a ≠ ua) n.su n.bu
theorem mkBI_I (n : BrN H H' CB CF b dxb sa dx kd ld pd la ua) (hl : isT 5 l = true) (hr : isT 5 r = true) (sz : (wk l).length * (wk r).length ≤ 100000) (hN : ∀ a, N a → ∃ o, H' a = some o) : (WB K (mkBI N n hl hr sz)).I (([], []) : S2) H' := by
  refine ⟨⟨fun a h => ?_, fun p hp => ?_, [], n.hkd, Memo.nil, fun k hk => by cases hk⟩, fun u => ?_⟩
  · rcases h with h | h
    · exact hN a h
    · simp only [List.mem_cons, List.not_mem_nil, or_false] at h
      rcases h with rfl | rfl | rfl | rfl | rfl
      · exact ⟨_, n.hkd⟩
      · exact ⟨_, n.hsa⟩
      · exact ⟨_, n.hb⟩
      · exact ⟨_, n.hla⟩
      · exact ⟨_, n.hua⟩
  · have hp' : p ∈ brObs CB CF b dxb sa dx kd ld pd la ua := hp
    simp only [List.mem_cons, List.not_mem_nil, or_false] at hp'
    rcases hp' with rfl | rfl
    · exact n.hsa
    · exact n.hb
  · cases u with
    | false => exact ⟨[], n.hla, .nil, rfl⟩
    | true => exact ⟨[], n.hua, .nil, rfl⟩
end
end
end Z
/-! between -/
namespace Z
open PySem L2
theorem ExS.runSeq {K : PySem.W.Frag} {W : Wd} {t u : TS} {δ : List Sl} {g : W.G} {P : Po W} (h : ExS K W t δ g P) {D : Ends} {σ : St} {H : Hp} (i : W.I g H) (f : Fr K W.N H σ δ) (hn : ∀ σ' δ' g' H', Stp W H H' → W.I g' H' → Fr K W.N H' σ' δ' → P.nx δ' g' → u D σ' H')
    (hr : ∀ v s g' H', Stp W H H' → W.I g' H' → RelS K W.N H' v s → P.rt s g' → D.rt v H') (hb : ∀ a b, ¬ P.bk a b) (hc : ∀ a b, ¬ P.ct a b) : tSeq t u D σ H :=
  h { D with nx := u D } σ H i f ⟨hn, hr, fun _ _ _ _ _ _ _ z => (hb _ _ z).elim, fun _ _ _ _ _ _ _ z => (hc _ _ z).elim⟩
theorem Fr.same {K : PySem.W.Frag} {N : Addr → Prop} {H H' : Hp} {σ : St} {δ : List Sl} (s : Same H H') (f : Fr K N H σ δ) : Fr K N H' σ δ := ⟨f.len, fun i t a n => by
  obtain ⟨v, b, c⟩ := f.at_ i t a n
  refine ⟨v, b, ?_⟩
  cases t with
  | no => exact c
  | val _ => exact c
  | dat d => exact Da.keep (N := N) (N' := N) (fun a o _ q => s a o q) (fun a o q _ => s a o q) (fun _ q _ => q) d v c⟩
theorem seqDrop {te : TE} {u : TS} {D : Ends} {σ : St} {H : Hp} (h : te σ H fun _ H1 => u D σ H1) : tSeq (tDrop te) u D σ H := h
theorem retTup {tA : TA} {D : Ends} {σ : St} {H : Hp} (h : tA σ H fun vs H1 => vs.length ≤ sizeLine ∧ ∀ p, H1 p = none → D.rt (.ref p) (upd H1 p (.tup vs))) : tRet (tTup tA) D σ H := h
theorem AvS.call {K : PySem.W.Frag} {W : Wd} {δ : List Sl} {g : W.G} {tA : TA} {ss : List Sl} {sp : Sp} {E : XK} {σ : St} {H : Hp} {Q : VK} (av : AvS K W tA δ g (isA ss g)) (i : W.I g H) (f : Fr K W.N H σ δ) (k : ∀ vs H1, Stp W H H1 → W.I g H1 → RelSs K W.N H1 vs ss → sp (vs ++ []) H1 Q E) : tCall sp [] E tA σ H Q :=
  av σ H i f _ fun vs ss' g' H1 e1 i1 rs ⟨a, b⟩ => by subst a; subst b; exact k vs H1 e1 i1 rs
/-- what between answers -/
def btw (l r : PyData) : PyData := if B l r = true then .tuple [(fnd 10 l r ([], [])).1.t, stepsD (fnd 10 l r ([], [])).2.1, stepsD (fnd 10 l r ([], [])).2.2] else .none
theorem isTerm_iff {d : PyData} : isTerm d = true ↔ isT 5 d = true ∧ lv d ≤ 24 := by
  unfold isTerm
  rw [Bool.and_eq_true, decide_eq_true_eq]
theorem isT_shorts : ∀ {n : Nat} {d : PyData}, isT n d = true → shorts d = true := by
  intro n
  induction n with
  | zero => intro d h; simp [isT] at h
  | succ n ih =>
    intro d h
    obtain ⟨m, e, c⟩ := isT_cases h
    cases e
    rcases c with ⟨z, rfl, hz⟩ | ⟨o, ps, rfl, ho, _, h3⟩
    · obtain ⟨c, rfl, _⟩ := isLetS_iff.mp hz
      rfl
    · simp only [shorts, shortsA, Bool.and_eq_true]
      refine ⟨?_, shortsA_mem.mpr fun p hp => ih (h3 p hp)⟩
      unfold isOp at ho
      rcases Bool.or_eq_true _ _ |>.mp ho with h | h
      · rw [eq_of_beq h, AMP_eq]; rfl
      · rw [eq_of_beq h, BAR_eq]; rfl
structure TwoT (l r : PyData) : Prop where
  tl : isT 5 l = true
  tr : isT 5 r = true
  ll : lv l ≤ 24
  lr : lv r ≤ 24
theorem TwoT.of {l r : PyData} (h1 : isTerm l = true) (h2 : isTerm r = true) : TwoT l r := ⟨(isTerm_iff.mp h1).1, (isTerm_iff.mp h2).1, (isTerm_iff.mp h1).2, (isTerm_iff.mp h2).2⟩
theorem TwoT.mul {l r : PyData} (h : TwoT l r) : lv l * lv r ≤ 576 := Nat.le_trans (Nat.mul_le_mul h.ll h.lr) (by decide)
theorem TwoT.sz {l r : PyData} (h : TwoT l r) : (wk l).length * (wk r).length ≤ 100000 := by
  have h1 := wk_len h.tl
  have h2 := wk_len h.tr
  have := h.ll
  have := h.lr
  exact Nat.le_trans (Nat.mul_le_mul (show (wk l).length ≤ 47 by omega) (show (wk r).length ≤ 47 by omega)) (by decide)
theorem TwoT.found {l r : PyData} (h : TwoT l r) (hB : B l r = true) : FOk l r 9 ([], []) (fnd 10 l r ([], [])) :=
  (fnd_ok 10 h.tl h.tr (by decide) (by decide) hB Dv.nil Dv.nil).mono (by decide)
theorem TwoT.len {l r : PyData} (h : TwoT l r) (hB : B l r = true) : (fnd 10 l r ([], [])).2.1.length ≤ 100000 ∧ (fnd 10 l r ([], [])).2.2.length ≤ 100000 := by
  have h1 := (h.found hB).l1
  have h2 := (h.found hB).l2
  have := h.mul
  simp only [List.length_nil] at h1 h2
  omega
section
variable {P : Program} {w : World} {K : PySem.W.Frag} {mg : Str → Option Value} {base : Heap} {CB CF : Addr}
abbrev sp_between (K : PySem.W.Frag) : Sp := spP K (β := PyData × PyData) (fun x => [.dat x.1, .dat x.2]) (fun x => isTerm x.1 = true ∧ isTerm x.2 = true) (fun x s => s = .dat (btw x.1 x.2))
theorem ok_between (Bt : Blt mg) (C : Cns K mg) (Er : ErrF K mg) (Br : BrF K mg CB CF) (M : Brg K CB CF) (D_between : Def K mg "between" s_between p_between) (D_need_term : Def K mg "need_term" s_need_term p_need_term) (D_is_term : DefD K mg "is_term" s_is_term p_is_term dv_is_term)
    (D_measured : Def K mg "measured" s_measured p_measured) (D_is_letter : Def K mg "is_letter" s_is_letter p_is_letter) (D_text_of : Def K mg "text_of" s_text_of p_text_of) : FnOk P w K mg base CX0 35 D_between.f D_between.fd p_between (sp_between K) := by
  have B := Bt
  have G_need_term : FnOk P w K mg base CX0 10 D_need_term.f D_need_term.fd p_need_term (sp_need K) := ok_need Bt C Er D_need_term D_is_term D_measured D_is_letter
  have G_BrI : FnOk P w K mg base CX0 3 Br.iB.f Br.iB.fd p_Bridge_init (sp_BrI CB CF) := ok_BrI Br
  have G_is_below : FnOk P w K mg base CX0 32 M.is_below.f M.is_below.fd p_Free_is_below (spF K CF 10 fun l r => .bool (Z.B l r)) := (ok_free Bt Br.cF M.is_below M.reason_for D_text_of 10).1
  have G_found : FnOk P w K mg base CX0 34 M.found.f M.found.fd p_Bridge_found (sp_found K CB CF 10 (fnd 10) cAll) := ok_found Bt Br.cB Br.cF M D_text_of 10
  have CC := Br.cF
  have CBl := Br.cB
  obtain ⟨M_noted, M_linked, M_found, M_over_left, M_over_right, M_through_part, M_is_below, M_reason_for⟩ := M
  refine fn_okP D_between.fn sc_between (fun _ => rfl) fun cdv A outer s H E hr N x hx => ⟨_, (pss_cons (ps_expr (pe_call G_need_term (hr.mono (by omega)) rfl D_need_term.g D_need_term.fn.kp D_need_term.b .nil pass0 (pa_cons (pv 0) pa_nil)))
  (pss_cons (ps_expr (pe_call G_need_term (hr.mono (by omega)) rfl D_need_term.g D_need_term.fn.kp D_need_term.b .nil pass0 (pa_cons (pv 1) pa_nil)))
  (pss_cons (ps_set (i := 2) sc_between.nd rfl (by first | exact Or.inl rfl | exact Or.inr rfl) (pe_make0 Br.mkB G_BrI (hr.mono (by omega)) (by rfl) Br.gB Br.iB.b .nil pass0))
  (pss_cons (ps_if (pt_not (pt_val (pe_meth (pe_fld (pv 2) rfl) CC.cl M_is_below.me G_is_below (hr.mono (by omega)) M_is_below.b .nil pass0 (pa_cons (pv 0) (pa_cons (pv 1) pa_nil))))) (pss_one (ps_ret pe_non)) pss_nil)
  (pss_cons (ps_asg (pe_meth (pv 2) CBl.cl M_found.me G_found (hr.mono (by omega)) M_found.b .nil pass0 (pa_cons (pv 0) (pa_cons (pv 1) pa_nil))) (pg_tup rfl (pgs_cons (pg_name (i := 3) sc_between.nd rfl (by first | exact Or.inl rfl | exact Or.inr rfl)) (pgs_cons (pg_name (i := 4) sc_between.nd rfl (by first | exact Or.inl rfl | exact Or.inr rfl)) (pgs_cons (pg_name (i := 5) sc_between.nd rfl (by first | exact Or.inl rfl | exact Or.inr rfl)) pgs_nil)))))
  (pss_one (ps_ret (pe_tup (pa_cons (pv 3) (pa_cons (pe_fld (pv 2) rfl) (pa_cons (pe_fld (pv 2) rfl) pa_nil))))))))))), ?_⟩
  obtain ⟨l, r⟩ := x
  obtain ⟨h1, h2⟩ := hx
  dsimp only at h1 h2 ⊢
  have T := TwoT.of h1 h2
  refine x_seq (x_drop (EvS.to (ev_callD (av_one (ev_var rfl)) (rc_spP l rfl ⟨isT_shorts T.tl, h1⟩ fun s e => ⟨e, rfl⟩)) ?_))
  refine x_seq (x_drop (EvS.to (ev_callD (av_one (ev_var rfl)) (rc_spP r rfl ⟨isT_shorts T.tr, h2⟩ fun s e => ⟨e, rfl⟩)) ?_))
  intro D σ H0 iH f d b dxb hb hdx hne
  refine ⟨b, dxb, rfl, upd_same, fun sa dx kd ld pd la ua H1 n => ⟨rfl, ?_⟩⟩
  have st0 : Same H0 (upd (upd H0 dxb (.own b)) b (.ins CB dxb [])) := fun x o h => by
    rw [upd_ne (ne_of_none h hb), upd_ne (ne_of_none h hdx)]
    exact h
  have back : ∀ {x : Addr}, upd (upd H0 dxb (.own b)) b (.ins CB dxb []) x = none → H0 x = none := fun {x} q => by
    cases z : H0 x with
    | none => rfl
    | some o => rw [st0 x o z] at q; cases q
  have st1 : Same H0 H1 := fun x o h => n.keep x o (ne_of_none h hb) (st0 x o h)
  have hN1 : ∀ a, N a → ∃ o, H1 a = some o := fun a q => by
    obtain ⟨o, z⟩ := iH a q
    exact ⟨o, st1 a o z⟩
  have iB : (WB K (mkBI N n T.tl T.tr T.sz)).I (([], []) : S2) H1 := mkBI_I n T.tl T.tr T.sz hN1
  have fN : ∀ a, brN N b sa kd la ua a → (∃ o, H0 a = some o) → N a := fun a q ⟨o, z⟩ => by
    rcases q with q | q
    · exact q
    · simp only [List.mem_cons, List.not_mem_nil, or_false] at q
      rcases q with rfl | rfl | rfl | rfl | rfl
      · rw [back n.nkd] at z; cases z
      · rw [back n.nsa] at z; cases z
      · rw [hb] at z; cases z
      · rw [back n.nla] at z; cases z
      · rw [back n.nua] at z; cases z
  have f1 : Fr K (brN N b sa kd la ua) H1 (σ.set 2 (some (.ref b))) [.dat l, .dat r, .val (.ref b), .no, .no, .no] := Fr.set (s := .val (.ref b)) (Fr.same st1 (f.sub fN)) 2 rfl
  generalize hy : mkBI N n T.tl T.tr T.sz = y at iB
  have eN : (WB K y).N = brN N b sa kd la ua := by rw [← hy]; rfl
  have eba : y.ba = b := by rw [← hy]; rfl
  have esa : y.f.sa = sa := by rw [← hy]; rfl
  have ela : y.ad false = la := by rw [← hy]; rfl
  have eua : y.ad true = ua := by rw [← hy]; rfl
  have ekd : y.f.x.kd = kd := by rw [← hy]; rfl
  have el0 : y.f.x.l0 = l := by rw [← hy]; rfl
  have er0 : y.f.x.r0 = r := by rw [← hy]; rfl
  have en0 : y.f.x.n0 = 5 := by rw [← hy]; rfl
  have em0 : y.f.x.m0 = 5 := by rw [← hy]; rfl
  have f1' : Fr K (WB K y).N H1 (σ.set 2 (some (.ref b))) [.dat l, .dat r, .val (.ref y.ba), .no, .no, .no] := by rw [eN, eba]; exact f1
  have hask : AskB 10 (y.f.x, l, r) := ⟨by show y.f.x.n0 ≤ 9; rw [en0]; decide, by show y.f.x.m0 ≤ 9; rw [em0]; decide, by show lv y.f.x.l0 ≤ 10000; rw [el0]; exact Nat.le_trans T.ll (by decide), by show lv y.f.x.r0 ≤ 10000; rw [er0]; exact Nat.le_trans T.lr (by decide),
    ⟨by show l ∈ wk y.f.x.l0; rw [el0]; exact wk_self l, by show r ∈ wk y.f.x.r0; rw [er0]; exact wk_self r⟩, 5, 5, T.tl, T.tr, by decide⟩
  have hN2 : ∀ {H2 : Hp}, Stp (WB K y) H1 H2 → Same H0 H2 := fun {H2} e x o h => e.keep x o (fun m => by
    rcases m with m | ⟨u, m⟩
    · rw [m, ekd, back n.nkd] at h; cases h
    · cases u with
      | false => rw [m, ela, back n.nla] at h; cases h
      | true => rw [m, eua, back n.nua] at h; cases h) (st1 x o h)
  have nomeF : ∀ (g : (WB K y).G) H, (WB K y).I g H → ∃ dx fs, H y.f.sa = some (.ins CF dx fs) ∧ fs.lookup ("is_below" : Str) = none := fun g H i => ⟨_, _, i.1.2.1 _ y.f.ob, flF_no (by decide +kernel) (by decide +kernel) (by decide +kernel)⟩
  have fin : ∀ {H2 : Hp}, Same H0 H2 → (PW N).I () H2 := fun {H2} e a q => by
    obtain ⟨o, z⟩ := iH a q
    exact ⟨o, e a o z⟩
  -- the test
  refine ExS.runSeq (K := K) (W := WB K y) (P := { nx := fun δ' g' => Z.B l r = true ∧ δ' = [.dat l, .dat r, .val (.ref y.ba), .no, .no, .no] ∧ g' = (([], []) : S2), rt := fun s _ => Z.B l r = false ∧ s = .dat .none })
    (x_ifD (b := !Z.B l r) (tv_not (tv_B (ev_meth (ev_fld (ev_var rfl) fun H i => ⟨CB, _, _, bself_at i, CBl.cl, CBl.free, by rw [flB, lk_put, if_pos rfl]⟩) (nomeF _) (av_two (ev_var rfl) (ev_var rfl)) (rc_bfree hask)))) (fun q => x_ret (EvS.to ev_non ⟨by simpa using q, rfl⟩)) fun q => x_next ⟨by simpa using q, rfl, rfl⟩) iB f1' ?_ ?_ (fun _ _ z => z) (fun _ _ z => z)
  · rintro σ2 δ2 g2 H2 e2 i2 f2 ⟨hB, rfl, rfl⟩
    have hpre : FPre 10 y.f.x l r ([], []) := ⟨hask, by decide, hB, Dv.nil, Dv.nil, fun u => by
      have := T.mul
      cases u <;> (show 0 + _ ≤ _) <;> omega⟩
    -- found
    refine ExS.runSeq (K := K) (W := WB K y) (P := { nx := fun δ' g' => (∃ a b, δ' = [.dat l, .dat r, .val (.ref y.ba), .dat (fnd 10 l r ([], [])).1.t, a, b]) ∧ g' = (fnd 10 l r ([], [])).2, rt := fun _ _ => False })
      (x_asgG (EvS.imp (ev_meth (ev_var rfl) (Emb.self y).nome (av_two (ev_var rfl) (ev_var rfl)) (rc_found hpre trivial)) fun s g1 ⟨a1, a2⟩ => by
        subst a1; subst a2
        exact gs_tup rfl (gs_cons (gs_name (gs_cons (gs_name (gs_cons (gs_name (gs_nil ⟨⟨_, _, rfl⟩, rfl⟩))))))))) i2 f2 ?_ (fun _ _ _ _ _ _ _ z => z.elim) (fun _ _ z => z) (fun _ _ z => z)
    rintro σ3 δ3 g3 H3 e3 i3 f3 ⟨⟨a, c, rfl⟩, rfl⟩
    -- the end
    have av : AvS K (WB K y) _ [.dat l, .dat r, .val (.ref y.ba), .dat (fnd 10 l r ([], [])).1.t, a, c] (fnd 10 l r ([], [])).2 (isA [.dat (fnd 10 l r ([], [])).1.t, .val (.ref (y.ad false)), .val (.ref (y.ad true))] (fnd 10 l r ([], [])).2) :=
      av_cons (ev_var (i := 3) rfl) (av_two (ev_fld (f := "lower_steps") (ev_var (i := 2) rfl) fun H i => ⟨CB, _, _, bself_at i, CBl.cl, CBl.lower_steps, by rw [flB, lk_put, if_neg (by decide +kernel), lk_put, if_pos rfl]⟩) (ev_fld (f := "upper_steps") (ev_var (i := 2) rfl) fun H i => ⟨CB, _, _, bself_at i, CBl.cl, CBl.upper_steps, by rw [flB, lk_put, if_neg (by decide +kernel), lk_put, if_neg (by decide +kernel), lk_put, if_pos rfl]⟩))
    refine retTup (av σ3 H3 i3 f3 _ fun vs ss g4 H4 e4 i4 rs ⟨b1, b2⟩ => ?_)
    subst b1; subst b2
    cases rs with
    | @cons v1 _ _ _ r1 rr =>
    cases rr with
    | @cons v2 _ _ _ r2 rr =>
    cases rr with
    | @cons v3 _ _ _ r3 rr =>
    cases rr
    cases (show v2 = V.ref (y.ad false) from r2)
    cases (show v3 = V.ref (y.ad true) from r3)
    have sm : Same H0 H4 := hN2 ((e2.trans e3).trans e4)
    have nN : ∀ u, ¬ N (y.ad u) := fun u q => by
      obtain ⟨o, z⟩ := iH _ q
      cases u with
      | false => rw [ela, back n.nla] at z; cases z
      | true => rw [eua, back n.nua] at z; cases z
    obtain ⟨len1, len2⟩ := T.len hB
    have lists : ∀ u, Da K N H4 (.ref (y.ad u)) (stepsD (sel u (fnd 10 l r ([], [])).2)) := fun u => by
      obtain ⟨xs, c1, c2, c3⟩ := i4.2 u
      refine .lst c1 (nN u) ?_ (das_nol c3 c2)
      rw [c2.length, List.length_map]
      cases u with
      | false => exact len100 len1
      | true => exact len100 len2
    have rt : Da K N H4 v1 (fnd 10 l r ([], [])).1.t := Da.nolk (fun _ _ q _ => q) _ _ (isT_nol (T.found hB).tT) r1
    refine ⟨by show 3 ≤ sizeLine; decide, fun p hp => ?_⟩
    refine d.rt (.ref p) (.dat (.tuple [(fnd 10 l r ([], [])).1.t, stepsD (fnd 10 l r ([], [])).2.1, stepsD (fnd 10 l r ([], [])).2.2])) () _ (Stp.same fun x o h => Same.new hp x o (sm x o h)) (fin fun x o h => Same.new hp x o (sm x o h)) ?_ ?_
    · exact new_tup (W := PW N) (g := ()) (fin sm) hp (by show 3 ≤ sizeLine; decide) (.cons rt (.cons (lists false) (.cons (lists true) .nil)))
    · show Sl.dat _ = Sl.dat (btw l r)
      unfold btw
      rw [if_pos hB]
  · rintro v s2 g2 H2 e2 i2 r2 ⟨hB, rfl⟩
    cases (show Da K _ H2 v .none from r2)
    refine d.rt .non (.dat .none) () H2 (Stp.same (hN2 e2)) (fin (hN2 e2)) Da.non ?_
    show Sl.dat _ = Sl.dat (btw l r)
    unfold btw
    rw [if_neg (by rw [hB]; decide)]
def sp_betweenX (K : PySem.W.Frag) (cI : Addr) : Sp := fun vs H Q E => ∃ (N : Addr → Prop) (l r : PyData), (∀ a, N a → ∃ o, H a = some o) ∧ RelSs K N H vs [.dat l, .dat r] ∧ shorts l = true ∧ shorts r = true ∧ (isTerm l && isTerm r) = false ∧ ErrAt H E cI
theorem ok_betweenX (Bt : Blt mg) (C : Cns K mg) (Er : ErrF K mg) (Br : BrF K mg CB CF) (M : Brg K CB CF) (D_between : Def K mg "between" s_between p_between) (D_need_term : Def K mg "need_term" s_need_term p_need_term) (D_is_term : DefD K mg "is_term" s_is_term p_is_term dv_is_term)
    (D_measured : Def K mg "measured" s_measured p_measured) (D_is_letter : Def K mg "is_letter" s_is_letter p_is_letter) (D_text_of : Def K mg "text_of" s_text_of p_text_of) : FnOk P w K mg base (L2.CX P w) 35 D_between.f D_between.fd p_between (sp_betweenX K Er.cI) := by
  have B := Bt
  have G_need_term : FnOk P w K mg base (L2.CX P w) 10 D_need_term.f D_need_term.fd p_need_term (sp_needX K Er.cI) := ok_needX Bt C Er D_need_term D_is_term D_measured D_is_letter
  have G_BrI : FnOk P w K mg base CX0 3 Br.iB.f Br.iB.fd p_Bridge_init (sp_BrI CB CF) := ok_BrI Br
  have G_is_below : FnOk P w K mg base CX0 32 M.is_below.f M.is_below.fd p_Free_is_below (spF K CF 10 fun l r => .bool (Z.B l r)) := (ok_free Bt Br.cF M.is_below M.reason_for D_text_of 10).1
  have G_found : FnOk P w K mg base CX0 34 M.found.f M.found.fd p_Bridge_found (sp_found K CB CF 10 (fnd 10) cAll) := ok_found Bt Br.cB Br.cF M D_text_of 10
  have CC := Br.cF
  have CBl := Br.cB
  obtain ⟨M_noted, M_linked, M_found, M_over_left, M_over_right, M_through_part, M_is_below, M_reason_for⟩ := M
  refine D_between.fn.okX sc_between (fun vs H Q E ⟨N, l, r, _, h, _⟩ => by rw [Paired.length h]; rfl) fun cdv A outer s H vs Q E hr ⟨N, l, r, hN, hv, sl, sr, ht, q⟩ => ⟨_, (pss_cons (ps_expr (pe_call G_need_term (hr.mono (by omega)) rfl D_need_term.g D_need_term.fn.kp D_need_term.b .nil (passes_call (takes_of rfl rfl rfl rfl) (fun _ _ _ _ h => h)) (pa_cons (pv 0) pa_nil)))
  (pss_cons (ps_expr (pe_call G_need_term (hr.mono (by omega)) rfl D_need_term.g D_need_term.fn.kp D_need_term.b .nil (passes_call (takes_of rfl rfl rfl rfl) (fun _ _ _ _ h => h)) (pa_cons (pv 1) pa_nil)))
  (pss_cons (ps_set (i := 2) sc_between.nd rfl (by first | exact Or.inl rfl | exact Or.inr rfl) (pe_make0 Br.mkB G_BrI (hr.mono (by omega)) (by rfl) Br.gB Br.iB.b .nil pass0))
  (pss_cons (ps_if (pt_not (pt_val (pe_meth (pe_fld (pv 2) rfl) CC.cl M_is_below.me G_is_below (hr.mono (by omega)) M_is_below.b .nil pass0 (pa_cons (pv 0) (pa_cons (pv 1) pa_nil))))) (pss_one (ps_ret pe_non)) pss_nil)
  (pss_cons (ps_asg (pe_meth (pv 2) CBl.cl M_found.me G_found (hr.mono (by omega)) M_found.b .nil pass0 (pa_cons (pv 0) (pa_cons (pv 1) pa_nil))) (pg_tup rfl (pgs_cons (pg_name (i := 3) sc_between.nd rfl (by first | exact Or.inl rfl | exact Or.inr rfl)) (pgs_cons (pg_name (i := 4) sc_between.nd rfl (by first | exact Or.inl rfl | exact Or.inr rfl)) (pgs_cons (pg_name (i := 5) sc_between.nd rfl (by first | exact Or.inl rfl | exact Or.inr rfl)) pgs_nil)))))
  (pss_one (ps_ret (pe_tup (pa_cons (pv 3) (pa_cons (pe_fld (pv 2) rfl) (pa_cons (pe_fld (pv 2) rfl) pa_nil))))))))))), ?_⟩
  have f : Fr K N H (L2.start n_between vs) [.dat l, .dat r, .no, .no, .no, .no] := fr_start hv
  have av1 : AvS K (PW N) _ [.dat l, .dat r, .no, .no, .no, .no] () (isA [.dat l] ()) := av_one (ev_var (i := 0) rfl)
  have av2 : AvS K (PW N) _ [.dat l, .dat r, .no, .no, .no, .no] () (isA [.dat r] ()) := av_one (ev_var (i := 1) rfl)
  refine seqDrop (av1.call hN f fun vs1 H1 e1 i1 rs1 => ?_)
  rw [List.append_nil]
  refine ⟨N, l, i1, rs1, sl, fun hl H2 s2 => ?_, fun hl => q.same (stp_pw e1)⟩
  have f2 : Fr K N H2 (L2.start n_between vs) [.dat l, .dat r, .no, .no, .no, .no] := Fr.same (fun x o h => s2 x o (stp_pw e1 x o h)) f
  have i2 : (PW N).I () H2 := fun a n => by
    obtain ⟨o, z⟩ := i1 a n
    exact ⟨o, s2 a o z⟩
  refine seqDrop (av2.call i2 f2 fun vs3 H3 e3 i3 rs3 => ?_)
  rw [List.append_nil]
  refine ⟨N, r, i3, rs3, sr, fun hr => ?_, fun hr => q.same fun x o h => stp_pw e3 x o (s2 x o (stp_pw e1 x o h))⟩
  rw [hl, hr] at ht
  cases ht
end
end Z
/-! sorted(set(..)) of a list of texts -/
namespace Z
open PySem PySem.Spec PyProof.Rows L2
def keyX (e : Int × Value) : Str := match e.2 with
  | .str k _ => k
  | _ => Str.empty
def GoodX (P : Program) (w : World) (e : Int × Value) : Prop := ∃ k tk, e.2 = Value.str k tk ∧ e.1 = (PySem.strKind P w).hash k
/-- a set of texts at a: M tells its members, n their number -/
def SetX (P : Program) (w : World) (h : Heap) (a : Addr) (M : Str → Prop) (n : Nat) : Prop :=
  ∃ o es ep t, h.get? a = some o ∧ o.ExactSet ∧ o.data = .set es ep t ∧ (∀ e ∈ es.toList, GoodX P w e) ∧ (es.toList.map keyX).Nodup ∧ (∀ k, k ∈ es.toList.map keyX ↔ M k) ∧
    es.size < scanBound ∧ t.fits es.size = true ∧ es.size = n ∧ Ris t.place.toList ∧ (w.params.followText "set-order" = true ∨ t.led = true)
section
variable {P : Program} {w : World} {A : Around} {E : Value → Shared → Prop} {s : Shared} {a : Addr} {M : Str → Prop} {n : Nat}
theorem SetX.at {h h' : Heap} (R : SetX P w h a M n) (k : ∀ o, h.get? a = some o → h'.get? a = some o) : SetX P w h' a M n := by
  obtain ⟨o, es, ep, t, ho, r⟩ := R
  exact ⟨o, es, ep, t, k o ho, r⟩
theorem SetX.congr {h : Heap} {M' : Str → Prop} (R : SetX P w h a M n) (e : ∀ k, M k ↔ M' k) : SetX P w h a M' n := by
  obtain ⟨o, es, ep, t, ho, h1, h2, h3, h4, h5, r⟩ := R
  exact ⟨o, es, ep, t, ho, h1, h2, h3, h4, fun k => (h5 k).trans (e k), r⟩
theorem goodX_elems {l : List (Int × Value)} (g : ∀ e ∈ l, GoodX P w e) : ElemsOf (PySem.strKind P w) l := fun e he => by
  obtain ⟨k, tk, h1, h2⟩ := g e he
  exact ⟨⟨k, by rw [h1]; exact strKind_is P w k tk, h2⟩, by rw [h1] <;> rfl⟩
theorem goodX_is {e : Int × Value} (g : GoodX P w e) (k : Str) : (PySem.strKind P w).is k e.2 = true ↔ keyX e = k := by
  obtain ⟨k0, tk, h1, _⟩ := g
  have h0 : (PySem.strKind P w).is k0 e.2 = true := by rw [h1]; exact strKind_is P w k0 tk
  have hk : keyX e = k0 := by unfold keyX; rw [h1]
  rw [hk]
  exact ⟨fun h => (PySem.strKind P w).inj _ _ _ h0 h, fun h => h ▸ h0⟩
theorem goodX_mem {l : List (Int × Value)} (g : ∀ e ∈ l, GoodX P w e) (k : Str) : k ∈ l.map keyX ↔ ∃ e ∈ l, (PySem.strKind P w).is k e.2 = true := by
  rw [List.mem_map]
  exact ⟨fun ⟨e, he, q⟩ => ⟨e, he, (goodX_is (g e he) k).2 q⟩, fun ⟨e, he, q⟩ => ⟨e, he, (goodX_is (g e he) k).1 q⟩⟩
/-- the end of an add: the table is stored, relaid where it is too full -/
theorem setX_tail {g : Bool → Sem Unit} (hg : ∀ (b : Bool) (s₁ : Shared) (Q' : Unit → Shared → Prop), Q' () s₁ → wpAny (model P w) A (g b) Q' E s₁)
    {o : Obj} {es : Array (Int × Value)} {ep : Nat} {t : SetTable} (ho : s.heap.get? a = some o) (hex : o.ExactSet) (hd : o.data = .set es ep t)
    {es1 : Array (Int × Value)} {t2 : SetTable} (g1 : ∀ e ∈ es1.toList, GoodX P w e) (nd1 : (es1.toList.map keyX).Nodup) (m1 : ∀ k, k ∈ es1.toList.map keyX ↔ M k)
    (hb1 : es1.size < scanBound) (hf2 : t2.fits es1.size = true) (hr : Ris t2.place.toList) (hl : w.params.followText "set-order" = true ∨ t2.led = true) {wasDummy : Bool} {R : Option Bool → Shared → Prop}
    (hR : ∀ h', Heap.SameBut a s.heap h' → SetX P w h' a M es1.size → R (some true) { s with heap := h' }) :
    wpAny (model P w) A (do
        storeSet a es1 t2
        if (!wasDummy && t2.tooFull) = true then do
            g (relayAll t2 es1 (SetTable.grown es1.size)).2.2
            storeSet a (relayAll t2 es1 (SetTable.grown es1.size)).1 (relayAll t2 es1 (SetTable.grown es1.size)).2.1
            pure (some true)
          else pure (some true)) R E s := by
  refine wpAny_bind (wpAny_storeSet_of ho hd ?_ (fits_of_scanBound hb1))
  have ho1 := store_at (es' := es1) (t' := t2) ho hd
  have sb1 := Heap.SameBut.update s.heap a (Obj.putSet es1 t2)
  split
  · have pm := relayAll_perm t2 es1 (SetTable.grown es1.size)
    have hf3 := relayAll_fits t2 es1 (SetTable.grown es1.size)
    have hr3 := relayAll_ris t2 es1 (SetTable.grown es1.size)
    have hl3 := relayAll_led t2 es1 (SetTable.grown es1.size)
    generalize relayAll t2 es1 (SetTable.grown es1.size) = Y at pm hf3 hr3 hl3 ⊢
    obtain ⟨es2, t3, gave⟩ := Y
    dsimp only at pm hf3 hr3 hl3 ⊢
    have hsz : es2.size = es1.size := by rw [← Array.length_toList, pm.length_eq, Array.length_toList]
    have hb2 : es2.size < scanBound := by rw [hsz]; exact hb1
    refine wpAny_bind (hg _ _ _ (wpAny_bind (wpAny_storeSet_of ho1 rfl ?_ (fits_of_scanBound hb2))))
    have ho2 := store_at (es' := es2) (t' := t3) ho1 rfl
    exact wpAny_pure (hR _ (sb1.trans (Heap.SameBut.update _ a _)) ⟨_, es2, _, t3, ho2, hex, rfl, fun e he => g1 e (pm.mem_iff.mp he), (pm.map keyX).nodup_iff.mpr nd1, fun k => (pm.map keyX).mem_iff.trans (m1 k), hb2, hf3, hsz, hr3,
      hl.imp id fun y => by rw [hl3]; exact y⟩)
  · exact wpAny_pure (hR _ sb1 ⟨_, es1, _, t2, ho1, hex, rfl, g1, nd1, m1, hb1, hf2, rfl, hr, hl⟩)
theorem setX_add {k : Str} {tk : Tok} {Q : Bool → Shared → Prop} (R : SetX P w s.heap a M n) (room : n + 1 < scanBound)
    (hQ : ∀ h' n' b, Heap.SameBut a s.heap h' → n' ≤ n + 1 → SetX P w h' a (fun j => M j ∨ j = k) n' → Q b { s with heap := h' }) :
    wpAny (model P w) A (setAddHashed a (.str k tk) ((PySem.strKind P w).hash k)) Q E s := by
  obtain ⟨o, es, ep, t, ho, hex, hd, g, nd, hm, hb, hf, hn, hr, hl⟩ := R
  have hkey : (PySem.strKind P w).is k (.str k tk) = true := strKind_is P w k tk
  have hsc : (Value.str k tk).scannable = true := rfl
  have hel : ElemsOf (PySem.strKind P w) es.toList := goodX_elems g
  unfold setAddHashed setAddHashedIn
  refine wpAny_holding (wpAny_bind (wpAny_setState_of ho hd hf ?_))
  dsimp only
  rw [byScan_of hsc hb hel]
  simp only [↓reduceIte]
  unfold setAddByScan
  refine wpAny_bind (wpAny_bind (wpAny_rule (wpAny_bind (wpAny_setScan_of hkey ho hd hf hel ?_))))
  cases hfi : List.findIdx? (fun e => (PySem.strKind P w).is k e.2) es.toList with
  | some j =>
    dsimp only
    obtain ⟨hj, pj, _⟩ := List.findIdx?_eq_some_iff_getElem.mp hfi
    have hSk : M k := (hm k).1 ((goodX_mem g k).2 ⟨es.toList[j], List.getElem_mem hj, pj⟩)
    exact wpAny_pure (wpAny_pure (hQ s.heap n _ (Heap.SameBut.refl a s.heap) (Nat.le_succ n) ⟨o, es, ep, t, ho, hex, hd, g, nd, fun i => (hm i).trans ⟨.inl, fun y => y.elim id fun e => e ▸ hSk⟩, hb, hf, hn, hr, hl⟩))
  | none =>
    dsimp only
    have hnk : k ∉ es.toList.map keyX := fun y => by
      obtain ⟨e, he, q⟩ := (goodX_mem g k).1 y
      have c := List.findIdx?_eq_none_iff.mp hfi e he
      rw [q] at c
      cases c
    have hgw : ∀ (b : Bool) {s₁ : Shared} {Q' : Unit → Shared → Prop}, Q' () s₁ → wpAny (model P w) A (match b with | true => rule "set.scan.the-table-gave-way" | false => pure ()) Q' E s₁ :=
      fun b s₁ Q' q => by cases b <;> first | exact wpAny_pure q | exact wpAny_rule q
    have pm := layNew_perm t es ((PySem.strKind P w).hash k) (.str k tk)
    have hf1 := layNew_fits t es ((PySem.strKind P w).hash k) (.str k tk)
    have hr1 := layNew_ris t es ((PySem.strKind P w).hash k) (.str k tk) hr
    have hl1 := layNew_led t es ((PySem.strKind P w).hash k) (.str k tk)
    generalize layNew t es ((PySem.strKind P w).hash k) (.str k tk) = Y at pm hf1 hr1 hl1 ⊢
    obtain ⟨es1, t1, wasDummy, gave⟩ := Y
    dsimp only at pm hf1 hr1 hl1 ⊢
    rw [Array.toList_push] at pm
    have pc : es1.toList.Perm (((PySem.strKind P w).hash k, Value.str k tk) :: es.toList) := pm.trans (List.perm_append_singleton _ _)
    have pk : (es1.toList.map keyX).Perm (k :: es.toList.map keyX) := pc.map keyX
    have g1 : ∀ e ∈ es1.toList, GoodX P w e := fun e he => by
      rcases List.mem_cons.mp (pc.mem_iff.mp he) with y | y
      · rw [y]; exact ⟨k, tk, rfl, rfl⟩
      · exact g e y
    have nd1 : (es1.toList.map keyX).Nodup := pk.nodup_iff.mpr (List.nodup_cons.mpr ⟨hnk, nd⟩)
    have m1 : ∀ i, i ∈ es1.toList.map keyX ↔ (M i ∨ i = k) := fun i => by
      rw [pk.mem_iff, List.mem_cons, hm i]
      exact Or.comm
    have hsz : es1.size = n + 1 := by rw [← Array.length_toList, pc.length_eq, List.length_cons, Array.length_toList, hn]
    have hb1 : es1.size < scanBound := by rw [hsz]; exact room
    have hled : w.params.followText "set-order" = true ∨ t1.led = true := hl.imp id fun y => by rw [hl1]; exact y
    have fin : ∀ b h', Heap.SameBut a s.heap h' → SetX P w h' a (fun j => M j ∨ j = k) es1.size → Q b { s with heap := h' } := fun b h' sb r => hQ h' es1.size b sb (Nat.le_of_eq hsz) r
    refine wpAny_bind (hgw _ ?_)
    split
    · refine wpAny_bind ?_
      rw [hashByValue_scannable 8 hsc]
      refine wpAny_pure ?_
      refine setX_tail ?_ ho hex hd g1 nd1 m1 hb1 ?_ ?_ ?_ ?_
      · intro b s₁ Q' q; cases b <;> first | exact wpAny_pure q | exact wpAny_rule q
      · first | (split <;> first | exact hf1 | exact SetTable.fits_plain_off hf1) | exact hf1
      · first | (split <;> exact hr1) | exact hr1
      · first | (split <;> exact hled) | exact hled
      · intro h' sb r; dsimp only; exact wpAny_pure (fin _ h' sb r)
    · refine wpAny_bind (wpAny_pure ?_)
      simp only [↓reduceIte]
      refine setX_tail ?_ ho hex hd g1 nd1 m1 hb1 hf1 hr1 hled ?_
      · intro b s₁ Q' q; cases b <;> first | exact wpAny_pure q | exact wpAny_rule q
      · intro h' sb r; dsimp only; exact wpAny_pure (fin _ h' sb r)
theorem setX_new {h : Heap} {xs : List Str} (ho : h.get? a = some { cls := .type "set", dict := none, data := .set #[] 0 (.fresh 0 0 (!w.params.followText "set-order")) }) : SetX P w h a (fun j => j ∈ xs.take 0) 0 :=
  ⟨_, #[], 0, _, ho, ⟨rfl, rfl, rfl⟩, rfl, (fun e he => by simp at he), (by simp), (fun k => by simp), (by decide), (by rfl), rfl, List.Pairwise.nil, by
    show _ ∨ (!w.params.followText "set-order") = true
    cases w.params.followText "set-order"
    · exact .inr rfl
    · exact .inl rfl⟩
theorem setX_loop {I : Addr} {fp wr : List Addr} {G : Array GenState → Array GenState → Prop} {n : Nat} {Pv : Nat → Value → Prop} {St : Nat → Shared → Prop} {R : Result → Shared → Prop}
    (W : WalksS P w A.in1 I fp wr G n Pv St) (S : Addr) (hSf : S ∉ fp) (xs : List Str) (hn : n = xs.length) (hb : xs.length + 1 < scanBound) (hval : ∀ i v, Pv i v → ∃ k t, xs[i]? = some k ∧ v = .str k t) :
    ∀ (k i : Nat) (s : Shared), n - i = k → i ≤ n → St i s → (∃ c, c ≤ i ∧ SetX P w s.heap S (fun j => j ∈ xs.take i) c) →
      (∀ s' c, Moved (S :: wr) G s s' → SetX P w s'.heap S (fun j => j ∈ xs) c → R (.ok (.ret .none)) s') →
      codeAny (model P w) A (.builtin "set.update.loop" ⟨[.ref S, .ref I], []⟩) R s := by
  have hSw : S ∉ wr := fun h => hSf (W.sub _ h)
  have hsub : ∀ b ∈ wr, b ∈ S :: wr := fun b hb => List.mem_cons_of_mem _ hb
  intro k
  induction k with
  | zero =>
    intro i s hk' hi hst ⟨c, hc, hS⟩ hR
    have hin : i = n := by omega
    subst hin
    refine codeAny_builtin F.entry_set_update_loop ?_
    rw [Around.under_plainId F.plain_set_update_loop _]
    show wpAny _ A.in1 (pyNext (.ref I) >>= _) _ _ s
    refine wpAny_bind (W.done s _ _ hst fun s' hm => ?_)
    show wpAny _ A.in1 (ret Value.none) _ _ s'
    have e : xs.take i = xs := List.take_of_length_le (by omega)
    rw [e] at hS
    exact wpAny_pure (hR s' c (hm.mono hsub) (hS.at fun o e => hm.heap S o hSw e))
  | succ k ih =>
    intro i s hk' hi hst ⟨c, hc, hS⟩ hR
    have hlt : i < n := by omega
    refine codeAny_builtin F.entry_set_update_loop ?_
    rw [Around.under_plainId F.plain_set_update_loop _]
    show wpAny _ A.in1 (pyNext (.ref I) >>= _) _ _ s
    refine wpAny_bind (W.item i s _ _ hlt hst fun v s' hP hst' hm => ?_)
    obtain ⟨y, t, hy, rfl⟩ := hval i v hP
    have hS' : SetX P w s'.heap S (fun j => j ∈ xs.take i) c := hS.at fun o e => hm.heap S o hSw e
    show wpAny _ A.in1 (holding [Value.str y t] (setAdd S (.str y t)) >>= _) _ _ s'
    refine wpAny_bind (wpAny_holding ?_)
    unfold setAdd
    refine wpAny_holding (wpAny_bind ((PySem.strKind P w).pyHash (k := y) (strKind_is _ _ _ _) ?_))
    refine setX_add (s := { s' with toks := s'.toks + 1 }) hS' (by omega) fun h' c' b' hsb hc' hS2 => ?_
    have hS3 : SetX P w h' S (fun j => j ∈ xs.take (i + 1)) c' := hS2.congr fun j => by
      rw [List.take_add_one, hy]
      simp [List.mem_append]
    refine wpAny_pure ⟨plainId_quiet F.plain_set_update_loop _, ih (i + 1) _ (by omega) hlt (W.frame _ s' _ _ hst' (Nat.le_succ _) fun b hb o e => ?_) ⟨_, by omega, hS3⟩ fun s'' c2 hm'' hS'' => ?_⟩
    · rw [hsb.2 b (fun h : b = S => hSf (by rw [← h]; exact hb))]; exact e
    · refine hR s'' c2 (Moved.trans W.gtrans ((hm.mono hsub).then_heap (Nat.le_succ _) fun b o hb e => ?_) hm'') hS''
      rw [hsb.2 b (fun h : b = S => hb (by rw [h]; exact List.mem_cons_self))]; exact e
abbrev newSetO (w : World) : Obj := { cls := .type "set", dict := none, data := .set #[] 0 (.fresh 0 0 (!w.params.followText "set-order")) }
/-- set(l) of a list of texts -/
theorem call_setX {l : Addr} {items : Array Value} (xs : List Str) {Q : Value → Shared → Prop} (hh : A.handled = none) (hl : s.heap.IsList l items) (hit : StrsAre items.toList xs) (hb : xs.length + 1 < scanBound)
    (h : ∀ (h' : Heap) (tk c : Nat), SetX P w h' s.heap.objs.size (fun j => j ∈ xs) c → (∀ b o, s.heap.get? b = some o → h'.get? b = some o) → Q (.ref s.heap.objs.size) { s with heap := h', toks := tk }) :
    wpAny (model P w) A (call (.type "set") [.ref l]) Q E s := by
  have hisz : items.size = xs.length := by
    have q := StrsAre.len_eq hit
    rw [Array.length_toList] at q
    exact q
  obtain ⟨c, tl, hmro⟩ := F.called_set.mro
  have hmade := F.called_set.made
  have hsub := F.called_set.sub
  refine wpAny_call (codeAny_of_tree ?_)
  show wpAny _ _ (callAny (.type "set") _) _ _ _
  refine wpAny_pure ⟨Code.quiet_builtin _ (by decide +kernel), codeAny_builtin F.entry_type_call ?_⟩
  rw [Around.under_plain (weight_type_call_type "set" [.ref l] []) rfl]
  have h1 := F.called_set.notType
  have h2 := F.called_set.canCreate
  have hct := F.typeCall_set_1 (.ref l)
  repeat (any_goals (first | assumption | wp_step))
  refine codeAny_mono (code_set_led1 (.ref l) (E := E) (Q₁ := fun obj s₁ => obj = .ref s.heap.objs.size ∧ s₁ = { s with heap := s.heap.push (newSetO w) }) ⟨rfl, rfl⟩) fun r s₁ hr => ?_
  cases r with
  | error e => exact hr
  | ok fl =>
    cases fl with
    | ret obj =>
      obtain ⟨rfl, rfl⟩ := hr
      have hS : (s.heap.push (newSetO w)).get? s.heap.objs.size = some (newSetO w) := Heap.get?_push_size _ rfl
      have hT : Shared.TypeIs { s with heap := s.heap.push (newSetO w) } (.ref s.heap.objs.size) "set" := ⟨_, hS, rfl⟩
      have hli := F.called_set.init.lookup
      have hbi := F.called_set.init.bind (.ref s.heap.objs.size)
      repeat (any_goals (first | assumption | wp_step))
      refine codeAny_mono (codeAny_call_builtin (R := wants (fun r s₂ => r = .none ∧ ∃ h' tk c, s₂ = { s with heap := h', toks := tk } ∧ SetX P w h' s.heap.objs.size (fun j => j ∈ xs) c ∧ (∀ b o, s.heap.get? b = some o → h'.get? b = some o)) E) F.called_set.init.plain F.entry_set_init (check_set_init_1 hT ?_)) fun r₂ s₂ hr₂ => ?_
      · obtain ⟨ol, hol, hcl, nl, hdl⟩ := hl
        obtain ⟨ocls, odict, odata, oslots⟩ := ol
        simp only at hcl hdl
        subst hcl; subst hdl
        have hol' : (s.heap.push (newSetO w)).get? l = some { cls := .type "list", dict := odict, data := .seq items nl, slots := oslots } := Heap.get?_push_of_some _ hol
        have hsls := F.sub_list_set
        have hslf := F.sub_list_frozenset
        have hne : (Value.type "list" == Value.type "dict") = false := by decide
        have hl1 : (s.heap.push (newSetO w)).IsList l items := ⟨_, hol', rfl, nl, rfl⟩
        unfold Builtin.«set.__init__» noKeywords Builtin.Frozenset.updateFrom
        generalize hPI : pyIter = PI
        wp_walk
        subst hPI
        refine wpAny_pyIter_list hl1 (wpAny_bind (wpAny_runValue ?_))
        have hlS : l < s.heap.objs.size := Heap.lt_size hol
        have hh3 : A.in1.in1.in1.handled = none := by simp [hh]
        have hneI : l ≠ (s.heap.push (newSetO w)).objs.size := by
          rw [Heap.size_push]; exact Nat.ne_of_lt (Nat.lt_succ_of_lt hlS)
        have hSf : s.heap.objs.size ∉ [(s.heap.push (newSetO w)).objs.size, l] := by
          rw [Heap.size_push]; simp only [List.mem_cons, List.mem_singleton, List.not_mem_nil, or_false, not_or]
          exact ⟨Nat.ne_of_lt (Nat.lt_succ_self _), Nat.ne_of_gt hlS⟩
        have hval : ∀ (i : Nat) (v : Value), items[i]? = some v → ∃ k t, xs[i]? = some k ∧ v = .str k t := fun i v hv => by
          have hi : i < xs.length := by rw [← hisz]; exact (Array.getElem?_eq_some_iff.mp hv).1
          obtain ⟨t, e⟩ := SS.strs_at hit i v (by rw [Array.getElem?_toList]; exact hv)
          refine ⟨xs[i], t, List.getElem?_eq_getElem hi, ?_⟩
          rw [e, List.getD_eq_getElem?_getD, List.getElem?_eq_getElem hi] <;> rfl
        refine setX_loop ((Walks.list hh3 _ l hneI items).toS) s.heap.objs.size hSf xs hisz hb hval (items.size - 0) 0 _ (by omega) (Nat.zero_le _) ⟨⟨_, Heap.get?_push_size _ rfl, rfl, rfl⟩, (hl1.push _)⟩ ?hS0 ?hR
        case hS0 =>
          have hget : ((s.heap.push (newSetO w)).push { cls := .type "list_iterator", data := .fields #[.ref l, .int 0 0] }).get? s.heap.objs.size = some (newSetO w) := Heap.get?_push_of_some _ hS
          exact ⟨0, Nat.le_refl 0, setX_new hget⟩
        case hR =>
          intro s' c' hm hS'
          obtain ⟨h', g2, d', tk', os'⟩ := s'
          have eg : g2 = s.gens := hm.gens
          have ed : d' = s.drawn := hm.drawn
          have eo : os' = s.os := hm.os
          subst eg; subst ed; subst eo
          show wpAny _ _ _ _ _ _
          refine wpAny_pure ?_
          show wpAny _ _ (ret Value.none) _ _ _
          refine wpAny_pure ⟨rfl, h', tk', c', rfl, hS', fun b o e => ?_⟩
          have hb0 : b < s.heap.objs.size := Heap.lt_size e
          have hb1 : b ≠ s.heap.objs.size := Nat.ne_of_lt hb0
          have hb2 : b ≠ (s.heap.push (newSetO w)).objs.size := by
            rw [Heap.size_push]; exact Nat.ne_of_lt (Nat.lt_succ_of_lt hb0)
          exact hm.heap b o (by simp only [List.mem_cons, List.mem_singleton, List.not_mem_nil, or_false, not_or]; exact ⟨hb1, hb2⟩) (Heap.get?_push_of_some _ (Heap.get?_push_of_some _ e))
      · cases r₂ with
        | error e => exact hr₂
        | ok fl₂ =>
          cases fl₂ with
          | ret r =>
            obtain ⟨rfl, h', tk, c', rfl, hS', hk'⟩ := hr₂
            repeat (any_goals (first | assumption | wp_step))
            exact h _ _ _ hS' hk'
          | _ => exact hr₂.elim
    | _ => exact hr.elim
end
end Z
namespace Z
open PySem PySem.Spec PyProof.Rows L2
section
variable {P : Program} {w : World} {A : Around} {E : Value → Shared → Prop} {s : Shared} {a : Addr} {M : Str → Prop} {n : Nat}
theorem strs_of : ∀ (l : List Value), (∀ v ∈ l, ∃ k tk, v = Value.str k tk) → StrsAre l (l.map fun v => keyX (0, v))
  | [], _ => .nil
  | v :: l, h => by
    obtain ⟨k, tk, rfl⟩ := h v List.mem_cons_self
    exact .cons k tk (strs_of l fun u hu => h u (List.mem_cons_of_mem _ hu))
/-- sorted of that set -/
theorem sorted_setX {Q : Value → Shared → Prop} (R : SetX P w s.heap a M n) (hh : A.handled = none) {L : List Str} (h64 : L.length < 64) (hL : ∀ k, M k → k ∈ L)
    (hQ : ∀ s' p (out : Array Value) (c : Nat) (ys : List Str), (∀ b o, s.heap.get? b = some o → s'.heap.get? b = some o) → s'.gens = s.gens → s'.os = s.os → s.heap.objs.size ≤ p →
      s'.heap.get? p = some (seqObj "list" out c) → StrsAre out.toList ys → (∀ k, k ∈ ys ↔ M k) → ys.length < 64 → Q (.ref p) s') :
    wpAny (model P w) A (call (.builtin "sorted") [.ref a]) Q E s := by
  obtain ⟨o, es, ep, t, ho, hex, hd, g, nd, hm, hb, hf, hn, hr, hl⟩ := R
  have hsize : (es.toList.map keyX).length < 64 := Nat.lt_of_le_of_lt (nodup_le nd fun k hk => hL k ((hm k).1 hk)) h64
  rw [List.length_map, Array.length_toList] at hsize
  refine Calls.call_function_entry kind_sorted plain_sorted entry_sorted (args_sorted1 _) ?_
  unfold Builtin.«sorted»
  refine wpAny_bind (m := checkCount "sorted" 1 1 _) (wpAny_pure ?_)
  refine wpAny_bind (collect_set (A := A.in1) hh ⟨o, ho, hex.1, hd⟩ hf hb hr hl fun s1 vs k1 hz g1 o1 pm => ?_)
  have hvl : vs.length = es.size := by rw [pm.length_eq, List.length_map, Array.length_toList]
  have hI : StrsAre vs (vs.map fun v => keyX (0, v)) := strs_of vs fun v hv => by
    obtain ⟨e, he, q⟩ := List.mem_map.mp (pm.mem_iff.mp hv)
    obtain ⟨k, tk, h1, _⟩ := g e he
    exact ⟨k, tk, by rw [← q]; exact h1⟩
  have pk : (vs.map fun v => keyX (0, v)).Perm (es.toList.map keyX) := by
    have q := pm.map fun v => keyX (0, v)
    rw [List.map_map] at q
    exact q
  refine wpAny_bind (wpAny_newList ?_ (by rw [hvl, sizeLine_eq]; omega))
  have hoL : (s1.heap.push (seqObj "list" vs.toArray 0)).get? s1.heap.objs.size = some (seqObj "list" vs.toArray 0) := Heap.get?_push_size _ rfl
  refine wpAny_bind (wpAny_holding (wpAny_call_entry slot_list_sort ⟨_, hoL, rfl⟩ entry_list_sort (list_sort_treeK strKind_oneLt hoL hI.keysOf (fun v₁ v₂ rest e => keyKind_strs (by rw [← e]; exact hI)) (by rw [hvl]; exact hsize) fun st' hp hs => ?_) (args_list_sort _)))
  obtain ⟨ys, a1, a2, a3⟩ := sorted_out_str hI hp hs
  refine ⟨_, rfl, ?_⟩
  obtain ⟨c, hc⟩ := sortedHeap_at (vs := vs) (out := (arrOf st').map (·.2)) hoL
  have pn : ys.Perm (es.toList.map keyX) := a2.trans pk
  refine wpAny_pure ⟨_, rfl, hQ _ s1.heap.objs.size _ c ys (fun b u e => ?_) g1 o1 hz hc a1 (fun k => by rw [pn.mem_iff, hm k]) (by rw [pn.length_eq, List.length_map, Array.length_toList]; exact hsize)⟩
  have q := k1 b u e
  have hlt := Heap.lt_size q
  show (sortedHeap (s1.heap.push (seqObj "list" vs.toArray 0)) s1.heap.objs.size vs _).get? b = some u
  rw [sortedHeap_old (Nat.ne_of_lt hlt) (by rw [size_push']; exact Nat.lt_succ_of_lt hlt)]
  exact Heap.get?_push_of_some _ q
end
theorem sortX_ok {X : Cx} {pins : List (Addr × Obj)} {σ : L2.St} {H : Hp} {s : Shared} {Q : VK} (I : Inv X pins σ H s) (R : SetX X.prog X.w s.heap a M n) (hh : X.A.handled = none) {L : List Str} (h64 : L.length < 64) (hL : ∀ k, M k → k ∈ L)
    (q : ∀ (ys : List Str) (p : Addr), (∀ k, k ∈ ys ↔ M k) → ys.length < 64 → H p = none → Q (.ref p) (upd H p (.lst (ys.map V.str)))) : wpAny (model X.prog X.w) X.A (call (.builtin "sorted") [.ref a]) (EP X pins σ Q) X.xe s := by
  refine sorted_setX R hh h64 hL fun s' p out c ys k g o hp hg hi hm' hy => ?_
  have hlen : (ys.map V.str).length ≤ sizeLine := by rw [List.length_map, sizeLine_eq]; omega
  have hn : H p = none := I.hok.fresh hp
  have J : Inv X pins σ (upd H p (.lst (ys.map V.str))) { s with heap := s'.heap, gens := s'.gens, drawn := s'.drawn, toks := s'.toks } :=
    I.call (ch := []) (Un.laid k hp hn) (I.hok.laid k hp ⟨hlen, out.toList, c, vals_of_strs hi, hg⟩) (by rw [g]; exact I.bare) (fun _ y => nomatch y)
  have e : s' = { s with heap := s'.heap, gens := s'.gens, drawn := s'.drawn, toks := s'.toks } := by
    cases s'
    cases s
    cases o
    rfl
  rw [e]
  exact ⟨.ref p, _, J, rfl, q ys p hm' hy hn⟩
/-- sorted(set(e)) -/
def tSorSet (K : PySem.W.Frag) (te : TE) : TE := fun σ H Q => te σ H fun v H1 => ∃ (l : Addr) (xs L : List Str), v = .ref l ∧ SqL K H1 l (xs.map V.str) ∧ xs.length ≤ 4000 ∧ L.length < 64 ∧ (∀ k ∈ xs, k ∈ L) ∧
  ∀ (ys : List Str) (p : Addr), (∀ k, k ∈ ys ↔ k ∈ xs) → ys.length < 64 → H1 p = none → Q (.ref p) (upd H1 p (.lst (ys.map V.str)))
theorem pe_sorSet {X : Cx} {a : Expr} {ta : TE} {p p2 q pos : Pos} (hc : X.calm = true) (hg : Gl X "sorted") (hm : X.mg "sorted" = none) (hg2 : Gl X "set") (hm2 : X.mg "set" = none) (ha : PE X a ta)
    (na : starEach [a] X.env = (false, eval a X.env) :: starEach [] X.env := by rfl) : PE X (.Call (.Name "sorted" p) [.Call (.Name "set" p2) [a] [] q] [] pos) (tSorSet X.K ta) := by
  refine ⟨fun pins s σ H Q I h => ?_⟩
  refine Call_ (ld_blt I hg hm boot_sorted ?_)
  refine PyProof.Rows.callWith_builtin1 (PyProof.Rows.args_cons ?_ rfl) rfl rfl
  refine Call_ (ld_blt I hg2 hm2 boot_set ?_)
  refine PyProof.Rows.callWith_type1 (PyProof.Rows.args_cons (thn (ha.run pins s σ H _ I h) fun v s1 ⟨x, H1, I1, r1, q1⟩ => PyProof.Rows.args_nil ?_) na) na rfl
  obtain ⟨l, xs, L, rfl, hq, hl4, h64, hL, q1⟩ := q1
  cases r1
  obtain ⟨its, r, pl, hz⟩ := I1.list hq
  refine call_setX xs (I1.ok.hd hc) pl.isList (by simpa using strsAre_of r) (by unfold scanBound; omega) fun h' tk c hS hk => ?_
  refine PyProof.Rows.args_nil ?_
  have I2 : Inv X pins σ H1 { s1 with heap := h', toks := tk } := I1.kept hk
  exact sortX_ok I2 hS (I1.ok.hd hc) h64 hL fun ys p h1 h2 h3 => q1 ys p h1 h2 h3
end Z
/-! the letters of a term; a swap of letters -/
namespace Z
open PySem L2
section
variable {K : PySem.W.Frag} {W : Wd} {δ : List Sl} {g : W.G} {te td ty : TE}
theorem ev_sorSet {xs L : List Str} {P : Sl → W.G → Prop} (h : EvD K W te δ g (.list (xs.map .str))) (hz : xs.length ≤ 4000) (h64 : L.length < 64) (hL : ∀ k ∈ xs, k ∈ L) (k : ∀ ys : List Str, (∀ k, k ∈ ys ↔ k ∈ xs) → ys.length < 64 → P (.dat (.list (ys.map .str))) g) : EvS K W (tSorSet K te) δ g P := fun σ H i f Q q =>
  h σ H i f _ fun v s g1 H1 e1 i1 r1 ⟨a, b⟩ => by
    subst a; subst b
    have r' : Da K W.N H1 v (.list (xs.map .str)) := r1
    cases r' with
    | lst a n z t =>
      cases das_str t
      refine ⟨_, xs, L, rfl, SqL.of a, hz, h64, hL, fun ys p h1 h2 hp => ?_⟩
      have da : DaAll K W.N H1 (ys.map V.str) (ys.map PyData.str) := by
        clear h1 h2
        induction ys with
        | nil => exact .nil
        | cons y ys ih => exact .cons (.str y) ih
      exact q (.ref p) (.dat (.list (ys.map .str))) _ _ (e1.trans (Stp.same (Same.new hp))) (W.mono i1 (Same.new hp)) (new_lst i1 hp (by rw [List.length_map]; exact Nat.le_trans (Nat.le_of_lt h2) (by decide)) da) (k ys h1 h2)
theorem valV_one (k j : Key) (v : V) : valV [(k, v)] j = if k = j then some v else none := by
  by_cases h : k = j
  · rw [valV_pos h, if_pos h]
  · rw [valV_neg h, if_neg h]; rfl
theorem valV_some (a z : Str) (v : V) : (valV [((Sum.inr a : Key), v)] (Sum.inr z : Key)).isSome = decide (z = a) := by
  rw [valV_one]
  by_cases h : z = a
  · subst h; simp
  · rw [if_neg (fun y => h (Sum.inr.inj y).symm), decide_eq_false h]; rfl
/-- one text key -/
theorem tv_dIn1 {a b z : Str} (hk : EvD K W ty δ g (.str z)) (hd : EvD K W td δ g (.dict [(.str a, .str b)])) : TvD K W (tB (tDIn ty td)) δ g (decide (z = a)) := fun σ H i f Q q =>
  hk σ H i f _ fun v s g1 H1 e1 i1 r1 ⟨a1, b1⟩ => by
    subst a1; subst b1
    cases (show Da K W.N H1 v (.str z) from r1)
    refine hd σ H1 i1 (f.stp i e1) _ fun v2 s2 g2 H2 e2 i2 r2 ⟨a2, b2⟩ => ?_
    subst a2; subst b2
    have r' : Da K W.N H2 v2 (.dict [(.str a, .str b)]) := r2
    cases r' with
    | dct ha n t =>
      cases t with
      | cons hv t =>
        cases t
        refine ⟨_, _, rfl, DGet.k (k := Sum.inr z) ha, _, rfl, ?_⟩
        rw [valV_some]
        exact q _ _ H2 (e1.trans e2) i2 ⟨rfl, rfl⟩
theorem ev_dGet1 {a b : Str} (hd : EvD K W td δ g (.dict [(.str a, .str b)])) (hk : EvD K W ty δ g (.str a)) : EvD K W (tDGet td ty) δ g (.str b) := fun σ H i f Q q =>
  hd σ H i f _ fun v s g1 H1 e1 i1 r1 ⟨a1, b1⟩ => by
    subst a1; subst b1
    refine hk σ H1 i1 (f.stp i e1) _ fun v2 s2 g2 H2 e2 i2 r2 ⟨a2, b2⟩ => ?_
    subst a2; subst b2
    cases (show Da K W.N H2 v2 (.str a) from r2)
    have r' : Da K W.N H2 v (.dict [(.str a, .str b)]) := RelS.stp (s := .dat _) i1 e2 r1
    cases r' with
    | dct ha n t =>
      cases t with
      | cons hv t =>
        cases t
        cases hv
        refine ⟨_, .str b, rfl, ?_, q _ (.dat (.str b)) _ H2 (e1.trans e2) i2 (.str b) ⟨rfl, rfl⟩⟩
        have := DGet.k (k := Sum.inr a) ha
        rw [valV_one, if_pos rfl] at this
        exact this
end
def abc : List Str := (List.range 8).map fun i => ⟨#[97 + i]⟩
theorem mem_abc {z : Str} : z ∈ abc ↔ isLetS z = true := by
  rw [isLetS_iff]
  unfold abc
  rw [List.mem_map]
  constructor
  · rintro ⟨i, hi, rfl⟩
    have := List.mem_range.mp hi
    exact ⟨97 + i, rfl, by omega, by omega⟩
  · rintro ⟨c, rfl, h1, h2⟩
    refine ⟨c - 97, List.mem_range.mpr (by omega), ?_⟩
    have : 97 + (c - 97) = c := by omega
    rw [this]
def strOfD : PyData → List Str
  | .str z => [z]
  | _ => []
def lets (d : PyData) : List Str := (wk d).flatMap strOfD
theorem mem_lets {d : PyData} {z : Str} : z ∈ lets d ↔ sg d z := by
  unfold lets sg
  rw [List.mem_flatMap]
  constructor
  · rintro ⟨e, he, h⟩
    cases e with
    | str y =>
      rw [List.mem_singleton.mp h]
      exact he
    | _ => cases h
  · exact fun h => ⟨_, h, List.mem_singleton.mpr rfl⟩
theorem sg_let {n : Nat} {d : PyData} {z : Str} (h : isT n d = true) (hs : sg d z) : isLetS z = true := by
  have := (wk_isT h _ hs).1
  rw [isT_str] at this
  exact (Bool.and_eq_true_iff.mp this).2
theorem flat_str : ∀ ds : List PyData, (ds.flatMap strOfD).length ≤ ds.length
  | [] => Nat.le_refl _
  | d :: ds => by
    rw [List.flatMap_cons, List.length_append, List.length_cons]
    have := flat_str ds
    have h1 : (strOfD d).length ≤ 1 := by cases d <;> simp [strOfD]
    omega
def swp : Nat → Str → Str → PyData → PyData
  | 0, _, _, d => d
  | n + 1, a, b, .tuple (c :: ps) => .tuple (c :: ps.map (swp n a b))
  | _ + 1, a, b, .str z => if z = a then .str b else .str z
  | _ + 1, _, _, d => d
theorem swp_ok : ∀ (n : Nat) {a b : Str} {d : PyData}, isT n d = true → isLetS b = true → isT n (swp n a b d) = true ∧ lv (swp n a b d) = lv d := by
  intro n
  induction n with
  | zero => intro a b d h; simp [isT] at h
  | succ n ih =>
    intro a b d h hb
    obtain ⟨m, e, c⟩ := isT_cases h
    cases e
    rcases c with ⟨z, rfl, hz⟩ | ⟨o, ps, rfl, h1, h2, h3⟩
    · rw [swp]
      by_cases q : z = a
      · rw [if_pos q, isT_str, lv_str, lv_str]
        simp [hb]
      · rw [if_neg q]
        exact ⟨h, rfl⟩
    · rw [swp]
      refine ⟨isT_mk h1 (by rw [List.length_map]; exact h2) fun p hp => ?_, ?_⟩
      · obtain ⟨q, hq, rfl⟩ := List.mem_map.mp hp
        exact (ih (h3 q hq) hb).1
      · rw [lv_node, lv_node, List.map_map]
        exact congrArg List.sum (List.map_congr_left fun q hq => (ih (h3 q hq) hb).2)
section
variable {P : Program} {w : World} {K : PySem.W.Frag} {mg : Str → Option Value} {base : Heap}
abbrev sp_L_signs (K : PySem.W.Frag) : Sp := spP K (β := PyData) (fun d => [.dat d]) (fun d => isT 9 d = true ∧ lv d ≤ 600) (fun d s => ∃ ys : List Str, s = .dat (.list (ys.map .str)) ∧ (∀ z, z ∈ ys ↔ sg d z) ∧ ys.length < 64)
theorem ok_L_signs_in (Bt : Blt mg) (D_L_signs_in : Def K mg "_law_signs_in" s_L_signs_in p_L_signs_in) (D_L_walk : Def K mg "_law_walk" s_L_walk p_L_walk) (D_L_parts : Def K mg "_law_parts" s_L_parts p_L_parts) :
    FnOk P w K mg base CX0 11 D_L_signs_in.f D_L_signs_in.fd p_L_signs_in (sp_L_signs K) := by
  have B := Bt
  have G_L_walk : FnOk P w K mg base CX0 10 D_L_walk.f D_L_walk.fd p_L_walk (sp_L_walk K 9) := ok_L_walk Bt D_L_walk D_L_parts 9
  refine fn_okP D_L_signs_in.fn sc_L_signs_in (fun _ => rfl) fun cdv A outer s H E hr N d h => ⟨_, (pss_one (ps_ret (pe_sorSet rfl (by rfl) B.sorted (by rfl) B.set_ (pe_lc (own := [("_law_one", 1)]) (g := gName 1)  (by rfl) sc_L_signs_in.nd (pi_list (pe_call G_L_walk (hr.mono (by omega)) rfl D_L_walk.g D_L_walk.fn.kp D_L_walk.b .nil pass0 (pa_cons (pv 0) pa_nil))) (blkOk_by (N := n_L_signs_in) (sc := defScope s_L_signs_in) (by decide +kernel)) (fun _ _ _ _ _ => (pg_name (i := 1) sc_L_signs_in.nd rfl (by first | exact Or.inl rfl | exact Or.inr rfl))) (fun _ _ _ _ _ => (pts_one (pt_val (pe_callB (w_isi K) (by rfl) B.isinstance bt_isinstance (pa_cons (pv 1) (pa_cons (pe_bltn (v := .ty "str") (by rfl) B.str_ bt_str rfl) pa_nil)))))) (fun _ _ _ _ _ => (pv 1)))))), ?_⟩
  obtain ⟨h1, h2⟩ := h
  have hw := wk_len h1
  refine x_ret (ev_sorSet (xs := lets d) (L := abc) ?_ ?_ (by decide) (fun k hk => mem_abc.mpr (sg_let h1 (mem_lets.mp hk))) fun ys h3 h4 => ⟨ys, rfl, fun z => (h3 z).trans mem_lets, h4⟩)
  · refine ev_lcL (ds := wk d) (ev_callD (av_one (ev_var rfl)) (rc_spP d rfl ⟨h1, by omega⟩ fun s e => ⟨e, rfl⟩)) (fun i acc g' => acc = (((wk d).take i).flatMap strOfD).map .str ∧ g' = ()) ⟨rfl, rfl⟩ (fun i e acc g' hi _ ⟨ha, _⟩ => ?_) fun acc g' _ _ ⟨ha, _⟩ => ⟨by rw [ha, List.take_length]; rfl, rfl⟩
    subst ha
    refine cg_name (by simp) (TvS.imp (tv_B (ev_isStr (ev_var rfl))) fun b g3 ⟨hb, _⟩ => ⟨fun q => ?_, fun q => ?_⟩)
    · rw [q] at hb
      cases e with
      | str z =>
        refine EvS.to (ev_var rfl) ⟨_, rfl, rfl, ?_, rfl⟩
        rw [List.take_add_one, hi, List.flatMap_append, List.map_append]
        rfl
      | _ => cases hb
    · rw [q] at hb
      refine ⟨?_, rfl⟩
      rw [List.take_add_one, hi, List.flatMap_append, List.map_append]
      cases e with
      | str z => cases hb
      | _ => simp [strOfD]
  · have := flat_str (wk d)
    show ((wk d).flatMap strOfD).length ≤ 4000
    omega
abbrev sp_L_swap (K : PySem.W.Frag) (n : Nat) : Sp := spP K (β := PyData × Str × Str) (fun x => [.dat x.1, .dat (.dict [(.str x.2.1, .str x.2.2)])]) (fun x => isT n x.1 = true ∧ isLetS x.2.2 = true ∧ lv x.1 ≤ 10000) (fun x s => s = .dat (swp n x.2.1 x.2.2 x.1))
theorem ok_L_swap (Bt : Blt mg) (D_L_swap : Def K mg "_law_swap" s_L_swap p_L_swap) : ∀ n, FnOk P w K mg base CX0 (n + 1) D_L_swap.f D_L_swap.fd p_L_swap (sp_L_swap K n) := by
  have B := Bt
  intro n
  induction n with
  | zero => exact fn_void fun x h => by have := h.1; simp [isT] at this
  | succ n ih =>
    have G_L_swap := ih
    refine fn_okP D_L_swap.fn sc_L_swap (fun _ => rfl) fun cdv A outer s H E hr N x hx => ⟨_, (pss_cons (ps_if (pt_val (pe_callB (w_isi K) (by rfl) B.isinstance bt_isinstance (pa_cons (pv 0) (pa_cons (pe_bltn (v := .ty "str") (by rfl) B.str_ bt_str rfl) pa_nil)))) (pss_one (ps_ret (pe_ifExp (pt_cmp (pc_din (hu_of hr) (pv 0) (pv 1)) (by rfl)) (pe_dget (hu_of hr) (pv 1) (pv 0) (fun _ _ => rfl)) (pv 0)))) pss_nil)
  (pss_one (ps_ret (pe_callTy (w_tuple K) (by rfl) B.tuple_ bt_tuple (pa_cons (pe_op op_cat (pe_lst (pa_cons (pe_ix (w_ix K) (pv 0) pe_int (fun _ _ => rfl)) pa_nil)) (pe_lc (own := [("_law_one", 2)]) (g := gName 2) (tt := tYes) (by rfl) sc_L_swap.nd (pi_tup (pe_slice (w_slT K) (pv 0) (po_some pe_int) po_none)) (blkOk_by (N := n_L_swap) (sc := defScope s_L_swap) (by decide +kernel)) (fun _ _ _ _ _ => (pg_name (i := 2) sc_L_swap.nd rfl (by first | exact Or.inl rfl | exact Or.inr rfl))) (fun _ _ _ _ _ => pts_nil) (fun _ _ _ _ _ => (pe_call G_L_swap (hr.mono (by omega)) rfl D_L_swap.g D_L_swap.fn.kp D_L_swap.b .nil pass0 (pa_cons (pv 2) (pa_cons (pv 1) pa_nil)))))) pa_nil))))), ?_⟩
    obtain ⟨d, a, b⟩ := x
    obtain ⟨hd, hb, hl⟩ := hx
    dsimp only at hd hb hl ⊢
    obtain ⟨m, e, c⟩ := isT_cases hd
    cases e
    rcases c with ⟨z, rfl, hz⟩ | ⟨o, ps, rfl, h1, h2, h3⟩
    · refine x_seq (x_ifD (tv_B (ev_isStr (ev_var rfl))) (fun _ => ?_) fun q => by cases q)
      refine x_ret (ev_if (tv_dIn1 (ev_var rfl) (ev_var rfl)) (fun q => ?_) fun q => ?_)
      · have q' := of_decide_eq_true q
        subst q'
        refine EvS.to (ev_dGet1 (ev_var rfl) (ev_var rfl)) ?_
        show _ = Sl.dat (swp (n + 1) z b (.str z))
        rw [swp, if_pos rfl]
      · refine EvS.to (ev_var rfl) ?_
        show _ = Sl.dat (swp (n + 1) a b (.str z))
        rw [swp, if_neg (of_decide_eq_false q)]
    · have hps : ps.length ≤ 10000 := by
        rw [lv_node] at hl
        exact Nat.le_trans (sum_pos fun p hp => lv_pos (h3 p hp)) hl
      refine x_seq (x_ifD (tv_B (ev_isStr (ev_var rfl))) (fun q => by cases q) fun _ => x_next ?_)
      refine x_ret (EvS.to (ev_cb1 (EvS.asD (ev_opD (ev_lst (ds := [.str o]) (av_one (ev_idx (ev_var rfl) at0))) (ev_lcTm (swp n a b) (ev_tail (ev_var rfl)) fun p hp => ?_) (rv_cat ?_)) rfl) rc_tupL) ?_)
      · have hl' : lv p ≤ 10000 := by
          rw [lv_node] at hl
          exact Nat.le_trans (le_sum hp) hl
        exact ⟨isT_nol (swp_ok n (h3 p hp) hb).1, cg_name (by simp) ⟨rfl, ev_callD (av_two (ev_var rfl) (ev_var rfl)) (rc_spP (p, a, b) rfl ⟨h3 p hp, hb, hl'⟩ fun s e => ⟨e, rfl⟩)⟩⟩
      · rw [List.length_map]
        exact Nat.le_trans (show 1 + ps.length ≤ 10001 by omega) (by decide)
      · show _ = Sl.dat (swp (n + 1) a b (.tuple (.str o :: ps)))
        rw [swp]
        rfl
end
end Z
/-! the source of draws -/
namespace Z
open PySem L2
structure SI where
  N : Addr → Prop
  src : Addr
  cells : Addr
  cs : List Int
  hS : N src
  hC : N cells
  ne : cells ≠ src
abbrev G4 := Nat × Int × Int × Int
abbrev MODS : Int := 2147483629
def lst4 (c : Addr) (g : G4) : List V := [.ref c, .int g.1, .int g.2.1, .int g.2.2.1, .int g.2.2.2]
def WT (x : SI) : Wd where
  G := G4
  M := fun a => a = x.src
  N := x.N
  I := fun g H => (∀ a, x.N a → ∃ o, H a = some o) ∧ H x.cells = some (.lst (x.cs.map V.int)) ∧ H x.src = some (.lst (lst4 x.cells g)) ∧ 0 ≤ g.2.2.1 ∧ g.2.2.1 < MODS
  sub := fun a e => e ▸ x.hS
  loc := fun {g H H'} i k _ => ⟨fun a n => (k a n).symm ▸ i.1 a n, (k _ x.hC).trans i.2.1, (k _ x.hS).trans i.2.2.1, i.2.2.2⟩
  trk := fun i n => i.1 _ n
  mu := fun {g H a} i e => by
    subst e
    rw [i.2.2.1]
    trivial
def WS (x : SI) : Wd where
  G := Unit
  M := fun a => a = x.src
  N := x.N
  I := fun _ H => ∃ g, (WT x).I g H
  sub := fun a e => e ▸ x.hS
  loc := fun {g H H'} i k t => let ⟨g, i⟩ := i; ⟨g, (WT x).loc i k t⟩
  trk := fun i n => let ⟨g, i⟩ := i; i.1 _ n
  mu := fun {g H a} i e => let ⟨g, i⟩ := i; (WT x).mu i e
section
variable {K : PySem.W.Frag} {x : SI} {δ : List Sl} {g : (WT x).G} {te : TE} {P : Po (WT x)}
theorem ev_src {k i : Int} (h : δ[0]? = some (.val (.ref x.src))) (ha : atI (lst4 x.cells g) k = some (.int i)) : EvD K (WT x) (tOp (rIx K) (tVar 0) (tC (.int k))) δ g (.int i) := ev_opD (ev_var h) ev_int (fun v1 v2 H hI r1 r2 Q q => by
  cases (show v1 = V.ref x.src from r1)
  cases (show Da K _ H v2 (.int k) from r2)
  exact Or.inl ⟨_, _, k, _, rfl, rfl, SqL.of hI.2.2.1, ha, q _ (.dat (.int i)) _ H (Stp.refl H) hI (Da.int i) ⟨rfl, rfl⟩⟩)
theorem ev_cellsA (h : δ[0]? = some (.val (.ref x.src))) : EvV K (WT x) (tOp (rIx K) (tVar 0) (tC (.int 0))) δ g (.ref x.cells) := ev_opD (ev_var h) ev_int (fun v1 v2 H hI r1 r2 Q q => by
  cases (show v1 = V.ref x.src from r1)
  cases (show Da K _ H v2 (.int 0) from r2)
  exact Or.inl ⟨_, _, 0, _, rfl, rfl, SqL.of hI.2.2.1, rfl, q _ (.val (.ref x.cells)) _ H (Stp.refl H) hI rfl ⟨rfl, rfl⟩⟩)
theorem ev_cell (h : δ[0]? = some (.val (.ref x.src))) {p : Nat} {c : Int} (hp : te = tOp (rIx K) (tVar 0) (tC (.int 1))) (hg : (show G4 from g).1 = p) (hc : x.cs[p]? = some c) : EvD K (WT x) (tOp (rIx K) (tOp (rIx K) (tVar 0) (tC (.int 0))) te) δ g (.int c) := by
  subst hp
  subst hg
  refine ev_opD (ev_cellsA h) (ev_src h rfl) fun v1 v2 H hI r1 r2 Q q => ?_
  cases (show v1 = V.ref x.cells from r1)
  cases (show Da K _ H v2 (.int _) from r2)
  refine Or.inl ⟨_, _, _, _, rfl, rfl, SqL.of hI.2.1, atI_nat (j := (show G4 from g).1) (by rw [List.getElem?_map, hc]; rfl), q _ (.dat (.int c)) _ H (Stp.refl H) hI (Da.int c) ⟨rfl, rfl⟩⟩
theorem rc_lenC : RcS K (WT x) (rLenC K) [.val (.ref x.cells)] g (is (.dat (.int (x.cs.length : Nat))) g) := RcS.pure1 fun v1 H i r1 Q q => by
  cases (show v1 = V.ref x.cells from r1)
  exact ⟨_, _, rfl, .inl ⟨_, SqL.of i.2.1, by rw [List.length_map]⟩, q _ (Da.int _)⟩
theorem x_src {k i : Int} {j : Nat} (g' : G4) (h : δ[0]? = some (.val (.ref x.src))) (hv : EvD K (WT x) te δ g (.int i)) (hj : ixN 5 k = some j) (hs : (lst4 x.cells g).set j (.int i) = lst4 x.cells g') (hb : 0 ≤ g'.2.2.1 ∧ g'.2.2.1 < MODS) (n : P.nx δ g') : ExS K (WT x) (tAsg te (gSub (tVar 0) (tC (.int k)) rSetL)) δ g P :=
  x_asgSub hv (P2 := fun _ _ => True) (P3 := fun _ _ => True) fun s1 g1 ⟨a1, b1⟩ => by
    subst a1; subst b1
    refine EvS.imp (ev_var h) fun s2 g2 ⟨a2, b2⟩ => ?_
    subst a2; subst b2
    refine EvS.imp ev_int fun s3 g3 ⟨a3, b3⟩ => ?_
    subst a3; subst b3
    intro v1 v2 v3 H hI r1 r2 r3 Q q
    cases (show Da K _ H v1 (.int i) from r1)
    cases (show v2 = V.ref x.src from r2)
    cases (show Da K _ H v3 (.int k) from r3)
    refine ⟨x.src, _, k, j, rfl, rfl, hI.2.2.1, hj, ?_⟩
    rw [hs]
    refine q g' _ ⟨fun a o m qa => ?_, fun a o qa => ?_⟩ ⟨fun a n => ?_, ?_, upd_same, hb⟩ n
    · rw [upd_ne m]; exact qa
    · by_cases e : a = x.src
      · rw [e]; exact ⟨_, upd_same⟩
      · exact ⟨o, by rw [upd_ne e]; exact qa⟩
    · by_cases e : a = x.src
      · rw [e]; exact ⟨_, upd_same⟩
      · rw [upd_ne e]; exact hI.1 a n
    · rw [upd_ne x.ne]; exact hI.2.1
theorem rv_mulI {W : Wd} {g : W.G} {i j : Int} (h : CMul i j) : RvD K W (rI CMul fun i j => .int (i * j)) (.int i) (.int j) g (.int (i * j)) := rv_i h fun _ => .int _
theorem rv_modI {W : Wd} {g : W.G} {i j : Int} (h : 0 < j) : RvD K W (rI (fun _ j => 0 < j) fun i j => .int (i % j)) (.int i) (.int j) g (.int (i % j)) := rv_i h fun _ => .int _
theorem rv_divI {W : Wd} {g : W.G} {i j : Int} (h : 0 < j ∧ j < 1073741824) : RvD K W (rI CDiv fun i j => .int (i / j)) (.int i) (.int j) g (.int (i / j)) := rv_i h fun _ => .int _
theorem rv_powI {W : Wd} {g : W.G} {i j : Int} (h : CPow i j) : RvD K W (rI CPow fun i j => .int (i ^ j.toNat)) (.int i) (.int j) g (.int (i ^ j.toNat)) := rv_i h fun _ => .int _
end
section
variable {P : Program} {w : World} {K : PySem.W.Frag} {mg : Str → Option Value} {base : Heap}
abbrev sp_L_take (K : PySem.W.Frag) : Sp := spG K (α := SI × Nat) (fun x => WS x.1) (fun _ => ()) (fun x => [.val (.ref x.1.src), .dat (.int (x.2 : Nat))]) (fun x => 0 < x.2 ∧ x.2 < 1000000) (fun x s _ => ∃ d : Nat, s = .dat (.int (d : Nat)) ∧ d < x.2)
abbrev sp_L_takeD (K : PySem.W.Frag) : Sp := spG K (α := SI × Nat × G4) (fun x => WT x.1) (fun x => x.2.2) (fun x => [.val (.ref x.1.src), .dat (.int (x.2.1 : Nat))]) (fun x => (0 < x.2.1 ∧ x.2.1 < 1000000) ∧ 0 ≤ x.2.2.2.2.1 ∧ x.2.2.2.2.1 < MODS) (fun x s _ => ∃ d : Nat, s = .dat (.int (d : Nat)) ∧ d < x.2.1)
theorem mod_nat {i : Int} {n : Nat} (h : 0 < n) : ∃ d : Nat, i % (n : Int) = (d : Int) ∧ d < n := by
  have h1 := Int.emod_nonneg i (b := (n : Int)) (by omega)
  have h2 := Int.emod_lt_of_pos i (b := (n : Int)) (by omega)
  exact ⟨(i % n).toNat, by omega, by omega⟩
theorem small_mul {i j : Int} (h : -(2 ^ 64) < j ∧ j < 2 ^ 64 := by decide) : CMul i j := .inr h
theorem small_mulL {i j : Int} (h : -(2 ^ 64) < i ∧ i < 2 ^ 64 := by decide) : CMul i j := .inl h
theorem mods_ok (i : Int) : 0 ≤ i % MODS ∧ i % MODS < MODS := ⟨Int.emod_nonneg i (by decide), Int.emod_lt_of_pos i (by decide)⟩
theorem ok_L_takeD (Bt : Blt mg) (D_L_take : Def K mg "_law_take" s_L_take p_L_take) : FnOk P w K mg base CX0 1 D_L_take.f D_L_take.fd p_L_take (sp_L_takeD K) := by
  have B := Bt
  refine fn_okG (α := SI × Nat × G4) D_L_take.fn sc_L_take (fun _ => rfl) fun cdv A outer s H E hr y hx => ⟨_, (pss_cons (ps_if (PW.pt (pw_and (pt_cmpR (w_eqD K hr.units) (pe_ix (w_ix K) (pv 0) pe_int (fun _ _ => rfl)) pe_int (nomark _)) (pw_and1 (pt_cmpR op_lt (pe_ix (w_ix K) (pv 0) pe_int (fun _ _ => rfl)) (pe_callB (w_len K) (by rfl) B.len bt_len (pa_cons (pe_ix (w_ix K) (pv 0) pe_int (fun _ _ => rfl)) pa_nil)) (nomark _))))) (pss_cons (ps_set (i := 2) sc_L_take.nd rfl (by first | exact Or.inl rfl | exact Or.inr rfl) (pe_ix (w_ix K) (pe_ix (w_ix K) (pv 0) pe_int (fun _ _ => rfl)) (pe_ix (w_ix K) (pv 0) pe_int (fun _ _ => rfl)) (fun _ _ => rfl)))
  (pss_cons (ps_asg (pe_op op_add (pe_ix (w_ix K) (pv 0) pe_int (fun _ _ => rfl)) pe_int) (pg_sub (pv 0) pe_int set_list))
  (pss_one (ps_if (pt_cmpR op_ge (pv 2) (pe_op op_pow pe_int pe_int) (nomark _)) (pss_one (ps_asg (pv 2) (pg_sub (pv 0) pe_int set_list))) (pss_one (ps_asg (pe_op op_mod (pe_callTy call_int1 (by rfl) B.int_ bt_int (pa_cons (pe_op op_add (pe_op op_add (pe_op op_mul (pe_ix (w_ix K) (pv 0) pe_int (fun _ _ => rfl)) pe_int) (pe_op op_mul (pe_op op_mod (pe_callTy call_int1 (by rfl) B.int_ bt_int (pa_cons (pv 2) pa_nil)) pe_int) pe_int)) pe_int) pa_nil)) pe_int) (pg_sub (pv 0) pe_int set_list))))))) pss_nil)
  (pss_cons (ps_if (pt_cmpR op_gt (pe_ix (w_ix K) (pv 0) pe_int (fun _ _ => rfl)) pe_int (nomark _)) (pss_cons (ps_set (i := 3) sc_L_take.nd rfl (by first | exact Or.inl rfl | exact Or.inr rfl) (pe_op op_mod (pe_callTy call_int1 (by rfl) B.int_ bt_int (pa_cons (pe_ix (w_ix K) (pv 0) pe_int (fun _ _ => rfl)) pa_nil)) (pv 1)))
  (pss_cons (ps_asg (pe_op op_fdiv (pe_ix (w_ix K) (pv 0) pe_int (fun _ _ => rfl)) (pv 1)) (pg_sub (pv 0) pe_int set_list))
  (pss_one (ps_ret (pv 3))))) pss_nil)
  (pss_cons (ps_asg (pe_op op_add (pe_ix (w_ix K) (pv 0) pe_int (fun _ _ => rfl)) pe_int) (pg_sub (pv 0) pe_int set_list))
  (pss_cons (ps_set (i := 4) sc_L_take.nd rfl (by first | exact Or.inl rfl | exact Or.inr rfl) (pe_op op_add (pe_op op_mod (pe_callTy call_int1 (by rfl) B.int_ bt_int (pa_cons (pe_op op_mul (pe_ix (w_ix K) (pv 0) pe_int (fun _ _ => rfl)) (pe_ix (w_ix K) (pv 0) pe_int (fun _ _ => rfl))) pa_nil)) pe_int) (pe_op op_mul pe_int (pe_ix (w_ix K) (pv 0) pe_int (fun _ _ => rfl)))))
  (pss_cons (ps_asg (pe_op op_mod (pe_callTy call_int1 (by rfl) B.int_ bt_int (pa_cons (pe_op op_add (pe_op op_add (pe_op op_mul (pv 4) pe_int) (pe_ix (w_ix K) (pv 0) pe_int (fun _ _ => rfl))) pe_int) pa_nil)) pe_int) (pg_sub (pv 0) pe_int set_list))
  (pss_one (ps_ret (pe_op op_mod (pe_callTy call_int1 (by rfl) B.int_ bt_int (pa_cons (pe_op op_add (pe_op op_fdiv (pe_ix (w_ix K) (pv 0) pe_int (fun _ _ => rfl)) pe_int) (pe_op op_mul (pe_op op_mod (pe_callTy call_int1 (by rfl) B.int_ bt_int (pa_cons (pe_ix (w_ix K) (pv 0) pe_int (fun _ _ => rfl)) pa_nil)) pe_int) pe_int)) pa_nil)) (pv 1))))))))), ?_⟩
  obtain ⟨x, many, p, b, st, c⟩ := y
  obtain ⟨⟨m1, m2⟩, hst⟩ := hx
  dsimp only at m1 m2 hst ⊢
  have hm : (0 : Int) < (many : Int) ∧ (many : Int) < 1073741824 := ⟨by omega, by omega⟩
  have z5 : ∀ k : Nat, k < 5 → ixN 5 (k : Int) = some k := by decide
  refine x_seqM (fun δ' g' => ∃ (p : Nat) (b st c : Int) (e2 : Sl), g' = ((p, b, st, c) : G4) ∧ 0 ≤ st ∧ st < MODS ∧ δ' = [.val (.ref x.src), .dat (.int (many : Nat)), e2, .no, .no]) ?_ fun δ' g' h => ?_
  · refine x_ifD (b := decide (b = 0) && decide (p < x.cs.length)) (TvS.as (tv_and (a := decide (b = 0)) (TvS.as (tv_test (ev_opD (ev_src (i := b) rfl rfl) ev_int (rv_eqD (Fit.shaped (Fit.int (n := 0) _) (by decide)) (Fit.shaped (Fit.int (n := 0) _) (by decide))))) ?_) fun _ => TvS.as (tv_test (ev_opD (ev_src (i := (p : Int)) rfl rfl) (ev_cb1 (ev_cellsA rfl) rc_lenC) rv_lt)) ?_) rfl) (fun q => ?_) fun q => x_next ⟨p, b, st, c, .no, rfl, hst.1, hst.2, rfl⟩
    · rfl
    · exact decide_eq_decide.mpr (by omega)
    · have q2 := of_decide_eq_true (Bool.and_eq_true_iff.mp q).2
      have hc : x.cs[p]? = some x.cs[p] := List.getElem?_eq_getElem q2
      refine x_seq (x_asg (EvS.to (ev_cell rfl rfl rfl hc) ?_))
      refine x_seq (x_src (k := 1) (j := 1) (i := (p : Int) + 1) ((p + 1, b, st, c) : G4) rfl (ev_opD (ev_src rfl rfl) ev_int rv_add) (z5 1 (by decide)) rfl hst ?_)
      refine x_ifD (tv_test (ev_opD (ev_var rfl) (ev_opD ev_int ev_int (rv_powI ⟨by decide, by decide, by decide⟩)) rv_ge)) (fun _ => ?_) fun _ => ?_
      · exact x_src (k := 2) (j := 2) ((p + 1, x.cs[p], st, c) : G4) rfl (ev_var rfl) (z5 2 (by decide)) rfl hst ⟨_, _, _, _, _, rfl, hst.1, hst.2, rfl⟩
      · refine x_src (k := 3) (j := 3) ((p + 1, b, (st * 65539 + x.cs[p] % 2147483587 * 31 + 101) % MODS, c) : G4) rfl ?_ (z5 3 (by decide)) rfl (mods_ok _) ⟨_, _, _, _, _, rfl, (mods_ok _).1, (mods_ok _).2, rfl⟩
        exact ev_opD (ev_cb1 (ev_opD (ev_opD (ev_opD (ev_src rfl rfl) ev_int (rv_mulI small_mul)) (ev_opD (ev_opD (ev_cb1 (ev_var rfl) rc_int) ev_int (rv_modI (by decide))) ev_int (rv_mulI small_mul)) rv_add) ev_int rv_add) rc_int) ev_int (rv_modI (by decide))
  obtain ⟨p, b, st, c, e2, hg, h0, h1, rfl⟩ := h
  subst hg
  refine x_seq (x_ifD (tv_test (ev_opD (ev_src rfl rfl) ev_int rv_gt)) (fun q => ?_) fun q => x_next ?_)
  · obtain ⟨d, hd, hd2⟩ := mod_nat (i := b) m1
    refine x_seq (x_asg (EvS.to (ev_opD (ev_cb1 (ev_src (i := b) rfl rfl) rc_int) (ev_var rfl) (rv_modI hm.1)) ?_))
    refine x_seq (x_src (k := 2) (j := 2) ((p, b / (many : Int), st, c) : G4) rfl (ev_opD (ev_src rfl rfl) (ev_var rfl) (rv_divI hm)) (z5 2 (by decide)) rfl ⟨h0, h1⟩ ?_)
    exact x_ret (EvS.to (ev_var rfl) ⟨d, by rw [hd], hd2⟩)
  refine x_seq (x_src (k := 4) (j := 4) ((p, b, st, c + 1) : G4) rfl (ev_opD (ev_src rfl rfl) ev_int rv_add) (z5 4 (by decide)) rfl ⟨h0, h1⟩ ?_)
  refine x_seq (x_asg (EvS.to (ev_opD (ev_opD (ev_cb1 (ev_opD (ev_src (i := st) rfl rfl) (ev_src (i := st) rfl rfl) (rv_mulI (.inl ⟨by omega, Int.lt_trans h1 (by decide)⟩))) rc_int) ev_int (rv_modI (by decide))) (ev_opD ev_int (ev_src (i := c + 1) rfl rfl) (rv_mulI small_mulL)) rv_add) ?_))
  refine x_seq (x_src (k := 3) (j := 3) ((p, b, ((st * st % 2147483629 + 40507 * (c + 1)) * 48271 + st + 17) % MODS, c + 1) : G4) rfl (ev_opD (ev_cb1 (ev_opD (ev_opD (ev_opD (ev_var rfl) ev_int (rv_mulI small_mul)) (ev_src (i := st) rfl rfl) rv_add) ev_int rv_add) rc_int) ev_int (rv_modI (by decide))) (z5 3 (by decide)) rfl (mods_ok _) ?_)
  generalize ((st * st % 2147483629 + 40507 * (c + 1)) * 48271 + st + 17) % MODS = st2
  obtain ⟨d, hd, hd2⟩ := mod_nat (i := st2 / 64 + st2 % 8191 * 7) m1
  refine x_ret (EvS.to (EvS.asD (ev_opD (ev_cb1 (ev_opD (ev_opD (ev_src (i := st2) rfl rfl) ev_int (rv_divI (by decide))) (ev_opD (ev_opD (ev_cb1 (ev_src (i := st2) rfl rfl) rc_int) ev_int (rv_modI (by decide))) ev_int (rv_mulI small_mul)) rv_add) rc_int) (ev_var rfl) (rv_modI hm.1)) (by rw [hd])) ⟨d, rfl, hd2⟩)
theorem ok_L_take (Bt : Blt mg) (D_L_take : Def K mg "_law_take" s_L_take p_L_take) : FnOk P w K mg base CX0 1 D_L_take.f D_L_take.fd p_L_take (sp_L_take K) :=
  (ok_L_takeD Bt D_L_take).imp fun vs H Q E ⟨⟨x, m⟩, ⟨g, i⟩, r, p, q⟩ => ⟨(x, m, g), i, r, ⟨p, i.2.2.2⟩, fun v s g' H' e i' r' p' => q v s () H' ⟨e.keep, e.there⟩ ⟨g', i'⟩ r' p'⟩
end
end Z
/-! draws: source, pick, mixed, signs -/
namespace Z
open PySem L2
/-! ### list(text) -/
abbrev sgnV (z : Str) : List V := z.cps.toList.map fun c => V.str ⟨#[c]⟩
def rListStr : List V → Hp → VK → Prop := fun xs H Q => ∃ z : Str, xs = [.str z] ∧ z.cps.size ≤ sizeLine ∧ ∀ l, H l = none → Q (.ref l) (upd H l (.lst (sgnV z)))
theorem vals_get : ∀ {xs : List V} {us : List Value}, xs.length = us.length → (∀ (j : Nat) (v : V) (u : Value), xs[j]? = some v → us[j]? = some u → RelV v u) → Vals xs us
  | [], [], _, _ => .nil
  | x :: xs, u :: us, hl, h => .cons (h 0 x u rfl rfl) (vals_get (by simpa using hl) fun j v w a b => h (j + 1) v w (by simpa using a) (by simpa using b))
  | [], _ :: _, hl, _ => by simp at hl
  | _ :: _, [], hl, _ => by simp at hl
section
variable {K : PySem.W.Frag} {W : Wd} {δ : List Sl} {g : W.G} {te th : TE} {P : Sl → W.G → Prop}
theorem RvS.imp {r : R2} {s1 s2 : Sl} {P' : Sl → W.G → Prop} (h : RvS K W r s1 s2 g P) (k : ∀ s g', P s g' → P' s g') : RvS K W r s1 s2 g P' := fun v1 v2 H i r1 r2 Q q => h v1 v2 H i r1 r2 Q fun v s g' H' e i' r p => q v s g' H' e i' r (k s g' p)
theorem cut_to (ds : List PyData) (n : Nat) : cutD ds none (some (n : Int)) = ds.take n := by
  unfold cutD
  rw [HT.sIx_none, HT.sIx_nat, List.drop_zero, Nat.sub_zero]
  by_cases h : n ≤ ds.length
  · rw [Nat.min_eq_left h]
  · rw [Nat.min_eq_right (by omega), List.take_of_length_le (Nat.le_refl _), List.take_of_length_le (by omega)]
theorem ev_slLS {ds : List PyData} {P1 : Sl → W.G → Prop} (h : EvD K W te δ g (.list ds)) (hh : EvS K W th δ g P1) (k : ∀ s g1, P1 s g1 → ∃ n : Nat, s = .dat (.int (n : Nat)) ∧ P (.dat (.list (ds.take n))) g1) : EvS K W (tSl (rSlL K) te tNoPart (tPart th)) δ g P := fun σ H i f Q q =>
  h σ H i f _ fun v s g1 H1 e1 i1 r1 ⟨a, b⟩ => by
    subst a; subst b
    refine hh σ H1 i1 (f.stp i e1) _ fun v2 s2 g2 H2 e2 i2 r2 p2 => ?_
    obtain ⟨n, a2, p3⟩ := k s2 g2 p2
    subst a2
    cases (show Da K W.N H2 v2 (.int n) from r2)
    have r3 : Da K W.N H2 v (.list ds) := RelS.stp (s := .dat (.list ds)) i1 e2 r1
    cases r3 with
    | lst x nn z t =>
      refine ⟨n, rfl, _, _, rfl, SqL.of x, fun p hp => ?_⟩
      refine q _ (.dat (.list (ds.take n))) _ _ ((e1.trans e2).trans (Stp.same (Same.new hp))) (W.mono i2 (Same.new hp)) ?_ p3
      rw [← cut_to]
      exact new_lst i2 hp (Nat.le_trans (cutV_length _ _ _) z) (cut_da t)
end
section
open PySem.Spec PyProof.Rows
variable {X : Cx}
theorem w_listStr (hc : X.calm = true := by rfl) : CallR X (.type "list") rListStr := by
  intro pins s σ H xs us Q I r h
  obtain ⟨z, rfl, hz, q⟩ := h
  obtain ⟨u, rfl, t, rfl⟩ := vals1 r
  refine call_list_str (hn := hz) (I.ok.hd hc) z t fun h' tk acc c hk hS hacc => ?_
  have rv : Vals (sgnV z) acc.toList := by
    refine vals_get (by rw [List.length_map, Array.length_toList, Array.length_toList, hacc.1]) fun j v w hv hw => ?_
    obtain ⟨c, u, hc, rfl⟩ := hacc.2 j w (by simpa using hw)
    rw [List.getElem?_map] at hv
    have hc' : z.cps.toList[j]? = some c := by simpa using hc
    rw [hc'] at hv
    cases hv
    exact ⟨u, rfl⟩
  exact ⟨.ref s.heap.objs.size, _, I.laid (t' := tk) hk (Nat.le_refl _) (show ObjOk X.prog X.w _ h' _ (.lst (sgnV z)) from ⟨by rw [List.length_map, Array.length_toList]; exact hz, acc.toList, c, rv, by rw [Array.toArray_toList]; exact hS⟩), rfl, q _ (I.hok.fresh (Nat.le_refl _))⟩
end
abbrev sgnD (z : Str) : List PyData := z.cps.toList.map fun c => PyData.str ⟨#[c]⟩
theorem rc_listStr {K : PySem.W.Frag} {W : Wd} {g : W.G} {z : Str} (hz : z.cps.size ≤ sizeLine) : RcS K W rListStr [.dat (.str z)] g (is (.dat (.list (sgnD z))) g) := fun vs H i rs Q q => by
  cases rs with
  | cons r1 rr =>
    cases rr
    cases (show Da K W.N H _ (.str z) from r1)
    have da : ∀ cs : List Nat, DaAll K W.N H (cs.map fun c => V.str ⟨#[c]⟩) (cs.map fun c => PyData.str ⟨#[c]⟩) := fun cs => by
      induction cs with
      | nil => exact .nil
      | cons c cs ih => exact .cons (.str _) ih
    exact ⟨z, rfl, hz, fun l hl => q (.ref l) (.dat (.list (sgnD z))) g _ (Stp.same (Same.new hl)) (W.mono i (Same.new hl)) (new_lst i hl (by rw [List.length_map, Array.length_toList]; exact hz) (da _)) ⟨rfl, rfl⟩⟩
/-! ### the source within a world -/
structure EmbS (x : SI) (W : Wd) : Prop where
  hN : (WS x).N = W.N
  hM : ∀ a, (WS x).M a → W.M a
  hi : ∀ g H, W.I g H → (WS x).I () H
  ho : ∀ g H H', W.I g H → Stp (WS x) H H' → (WS x).I () H' → W.I g H'
theorem EmbS.self (x : SI) : EmbS x (WS x) := ⟨rfl, fun _ m => m, fun _ _ i => i, fun _ _ _ _ _ i => i⟩
def SI.own (x : SI) (p : Addr) : SI := { x with N := fun a => x.N a ∨ a = p, hS := .inl x.hS, hC := .inl x.hC }
abbrev spS (K : PySem.W.Frag) {β : Type} (ar : SI × β → List Sl) (pre : SI × β → Prop) (post : SI × β → Sl → Prop) : Sp := spG K (α := SI × β) (fun y => WS y.1) (fun _ => ()) ar pre (fun y s _ => post y s)
theorem EmbS.own {K : PySem.W.Frag} (x : SI) (p : Addr) : EmbS (x.own p) ((WS x).own K p) where
  hN := rfl
  hM := fun a m => .inl m
  hi := fun g H ⟨⟨g4, i⟩, i2, i3, xs, i4, i5⟩ => ⟨g4, fun a n => by
    rcases n with n | n
    · exact i.1 a n
    · subst n; exact ⟨_, i4⟩, i.2⟩
  ho := fun g H H' ⟨⟨g4, i⟩, i2, i3, xs, i4, i5⟩ e ⟨g4', i'⟩ => by
    refine ⟨⟨g4', fun a n => i'.1 a (.inl n), i'.2⟩, i2, i3, xs, e.keep p _ (fun m => i2 (by have : p = x.src := m; rw [this]; exact x.hS)) i4, ?_⟩
    refine DaAll.nolk (fun q o h m => e.keep q o (fun z => ?_) h) _ _ i3 i5
    have : q = x.src := z
    subst this
    rw [i.2.2.1] at h
    cases h
    exact m trivial
section
variable {K : PySem.W.Frag} {x : SI} {W : Wd} {δ : List Sl} {g : W.G} {E : XK} {te : TE}
theorem rc_spS {β : Type} {ar : SI × β → List Sl} {pre : SI × β → Prop} {post : SI × β → Sl → Prop} {ss : List Sl} {P : Sl → W.G → Prop} (e : EmbS x W) (b : β) (ha : ar (x, b) = ss) (hp : pre (x, b)) (k : ∀ s, post (x, b) s → P s g) : RcS K W (fun vs H Q => spS K ar pre post vs H Q E) ss g P :=
  rc_spG (α := SI × β) (x, b) ha hp e.hN e.hM (fun H i => e.hi g H i) fun s g' H H' i e' i' p => ⟨g, e.ho g H H' i e' i', k s p⟩
theorem rc_take (e : EmbS x W) {m : Nat} (h : 0 < m ∧ m < 1000000) {P : Sl → W.G → Prop} (k : ∀ d : Nat, d < m → P (.dat (.int (d : Nat))) g) : RcS K W (fun vs H Q => sp_L_take K vs H Q E) [.val (.ref x.src), .dat (.int (m : Nat))] g P :=
  rc_spS e m rfl h fun s ⟨d, h1, h2⟩ => by rw [h1]; exact k d h2
theorem at_nat {ds : List PyData} {i : Nat} {d : PyData} (h : ds[i]? = some d) : atD (.list ds) (i : Int) = some d := atI_nat h
/-- an own list, the whole handed out -/
theorem x_ownR {P : Po W} {u : TS} {i : Nat} (h : ∀ p, ExS K (W.own K p) u (δ.set i (.val (.ref p))) (g, []) { nx := fun δ' g' => P.nx δ' g'.1, rt := fun s g' => (s = .val (.ref p) ∧ g'.2.length ≤ sizeLine ∧ P.rt (.dat (.list g'.2)) g'.1) ∨ ((∀ v, s ≠ .val v) ∧ P.rt s g'.1), bk := fun δ' g' => P.bk δ' g'.1, ct := fun δ' g' => P.ct δ' g'.1 }) : ExS K W (tSeq (tAsg (tLst tNil) (gName i)) u) δ g P := by
  intro D σ H iH f d
  have key : ExS K W (tSeq (tAsg (tLst tNil) (gName i)) u) δ g P := by
    clear d f iH
    intro D σ H iH f d
    refine ⟨Nat.zero_le _, fun p hp => ?_⟩
    have nN : ¬ W.N p := fun n => by
      obtain ⟨o, q⟩ := W.trk iH n
      rw [hp] at q
      cases q
    have hsub : ∀ a, (W.N a ∨ a = p) → (∃ o, H a = some o) → W.N a := fun a n ⟨o, q⟩ => n.elim id fun e => by subst e; rw [hp] at q; cases q
    have iO : (W.own K p).I (g, []) (upd H p (.lst [])) := ⟨W.mono iH (Same.new hp), nN, rfl, [], upd_same, .nil⟩
    have fO : Fr K (W.own K p).N (upd H p (.lst [])) (σ.set i (some (.ref p))) (δ.set i (.val (.ref p))) := Fr.set (s := .val (.ref p)) (Fr.same (Same.new hp) (f.sub hsub)) i rfl
    have back : ∀ {H' : Hp}, Stp (W.own K p) (upd H p (.lst [])) H' → Stp W H H' := fun {H'} e => ⟨fun a o m q => by
        have ne : a ≠ p := fun z => by subst z; rw [hp] at q; cases q
        exact e.keep a o (fun z => z.elim m ne) (by rw [upd_ne ne]; exact q), fun a o q => e.there a o ((Same.new hp) a o q)⟩
    refine h p D _ _ iO fO ⟨fun σ' δ' g' H' e i' f' q => d.nx σ' δ' g'.1 H' (back e) i'.1 (f'.sub fun a n _ => .inl n) q, fun v s g' H' e i' r q => ?_,
      fun σ' δ' g' H' e i' f' q => d.bk σ' δ' g'.1 H' (back e) i'.1 (f'.sub fun a n _ => .inl n) q, fun σ' δ' g' H' e i' f' q => d.ct σ' δ' g'.1 H' (back e) i'.1 (f'.sub fun a n _ => .inl n) q⟩
    rcases q with ⟨hs, hl, q⟩ | ⟨_, q⟩
    · subst hs
      cases (show v = V.ref p from r)
      obtain ⟨j1, j2, j3, xs, c, dd⟩ := id i'
      exact d.rt (.ref p) (.dat (.list g'.2)) g'.1 H' (back e) j1 (.lst c j2 (by rw [dd.length]; exact hl) (das_nol j3 dd)) q
    · exact d.rt v s g'.1 H' (back e) i'.1 (r.sub fun a n _ => .inl n) q
  exact key D σ H iH f d
abbrev rInsert : V → List V → Hp → VK → Prop := fun x vs H Q => ∃ (l : Addr) (xs : List V) (i : Int) (y : V), x = .ref l ∧ vs = [.int i, y] ∧ H l = some (.lst xs) ∧ xs.length < sizeLine ∧ 0 ≤ i ∧ i < 2 ^ 63 ∧ Q .non (upd H l (.lst (xs.take i.toNat ++ [y] ++ xs.drop i.toNat)))
theorem ev_ownIns {p : Addr} {δ : List Sl} {g : (W.own K p).G} {tx ti te : TE} {P1 : Sl → (W.own K p).G → Prop} {P : Sl → (W.own K p).G → Prop} {d : PyData} (hx : EvV K (W.own K p) tx δ g (.ref p)) (hi : EvS K (W.own K p) ti δ g fun s g' => g' = g ∧ ∃ n : Nat, s = .dat (.int (n : Nat)) ∧ n ≤ g.2.length) (h : EvD K (W.own K p) te δ g d) (hn : nol d = true) (hl : g.2.length ≤ 100000)
    (k : ∀ n : Nat, n ≤ g.2.length → P (.dat .none) (g.1, g.2.take n ++ [d] ++ g.2.drop n)) : EvS K (W.own K p) (tBM K "list" rInsert tx (tCons ti (tCons te tNil))) δ g P := fun σ H i f Q q =>
  hx σ H i f _ fun v s g1 H1 e1 i1 r1 ⟨a1, b1⟩ => by
    subst a1; subst b1
    cases (show v = V.ref p from r1)
    refine ⟨?_, hi σ H1 i1 (f.stp i e1) _ fun v2 s2 g2 H2 e2 i2 r2 ⟨b2, n, a2, hn2⟩ => h σ H2 (b2 ▸ i2) ((f.stp i e1).stp i1 e2) _ fun v3 s3 g3 H3 e3 i3 r3 ⟨a3, b3⟩ => ?_⟩
    · obtain ⟨_, _, _, xs, c, _⟩ := i1
      exact .inl ⟨rfl, xs, SqL.of c⟩
    subst a2; subst b2; subst a3; subst b3
    cases (show Da K _ H2 v2 (.int n) from r2)
    obtain ⟨j1, j2, j3, xs, c, dd⟩ := id i3
    refine ⟨p, xs, (n : Int), v3, rfl, rfl, c, by rw [dd.length]; exact lt100 hl, by omega, by omega, ?_⟩
    rw [Int.toNat_natCast]
    have hnt : ∀ a o, H3 a = some o → ¬ Mu (some o) → upd H3 p (.lst (xs.take n ++ [v3] ++ xs.drop n)) a = some o := fun a o qa m => by
      rw [upd_ne (fun z => by rw [z, c] at qa; cases qa; exact m trivial)]
      exact qa
    have d2 := DaAll.nolk (N' := fun a => W.N a ∨ a = p) hnt _ _ j3 dd
    refine q .non (.dat .none) (g3.1, g3.2.take n ++ [d] ++ g3.2.drop n) _ (((e1.trans e2).trans e3).trans ⟨fun a o m qa => ?_, fun a o qa => ?_⟩) ⟨W.loc j1 (fun a n => upd_ne fun z => j2 (z ▸ n)) hnt, j2, ?_, _, upd_same, ((d2.take n).append (.one (Da.nolk hnt _ _ hn r3))).append (d2.drop n)⟩ Da.non (k n hn2)
    · rw [upd_ne fun z => m (.inr z)]
      exact qa
    · by_cases e : a = p
      · rw [e]; exact ⟨_, upd_same⟩
      · exact ⟨o, by rw [upd_ne e]; exact qa⟩
    · have hm := nols_mem.mp j3
      refine nols_mem.mpr fun e he => ?_
      rcases List.mem_append.mp he with he | he
      · rcases List.mem_append.mp he with he | he
        · exact hm e (List.mem_of_mem_take he)
        · rw [List.mem_singleton.mp he]; exact hn
      · exact hm e (List.mem_of_mem_drop he)
theorem rc_ownLen {p : Addr} {g : (W.own K p).G} : RcS K (W.own K p) (rLenC K) [.val (.ref p)] g (is (.dat (.int (g.2.length : Nat))) g) := RcS.pure1 fun v1 H i r1 Q q => by
  cases (show v1 = V.ref p from r1)
  obtain ⟨j1, j2, j3, xs, c, dd⟩ := i
  exact ⟨_, _, rfl, .inl ⟨_, SqL.of c, by rw [dd.length]⟩, q _ (Da.int _)⟩
end
section
variable {P : Program} {w : World} {K : PySem.W.Frag} {mg : Str → Option Value} {base : Heap}
abbrev sp_L_pick (K : PySem.W.Frag) : Sp := spS K (β := List PyData) (fun y => [.val (.ref y.1.src), .dat (.list y.2)]) (fun y => 0 < y.2.length ∧ y.2.length < 1000000) (fun y s => ∃ d ∈ y.2, s = .dat d)
theorem rc_pick {x : SI} {W : Wd} {g : W.G} {E : XK} (e : EmbS x W) {ds : List PyData} (h : 0 < ds.length ∧ ds.length < 1000000) {P : Sl → W.G → Prop} (k : ∀ d ∈ ds, P (.dat d) g) : RcS K W (fun vs H Q => sp_L_pick K vs H Q E) [.val (.ref x.src), .dat (.list ds)] g P :=
  rc_spS e ds rfl h fun s ⟨d, h1, h2⟩ => by rw [h2]; exact k d h1
theorem ok_L_pick (Bt : Blt mg) (D_L_pick : Def K mg "_law_pick" s_L_pick p_L_pick) (D_L_take : Def K mg "_law_take" s_L_take p_L_take) : FnOk P w K mg base CX0 2 D_L_pick.f D_L_pick.fd p_L_pick (sp_L_pick K) := by
  have B := Bt
  have G_L_take : FnOk P w K mg base CX0 1 D_L_take.f D_L_take.fd p_L_take (sp_L_take K) := ok_L_take Bt D_L_take
  refine fn_okG (α := SI × List PyData) D_L_pick.fn sc_L_pick (fun _ => rfl) fun cdv A outer s H E hr y hx => ⟨_, (pss_one (ps_ret (pe_ix (w_ix K) (pv 1) (pe_call G_L_take (hr.mono (by omega)) rfl D_L_take.g D_L_take.fn.kp D_L_take.b .nil pass0 (pa_cons (pv 0) (pa_cons (pe_callB (w_len K) (by rfl) B.len bt_len (pa_cons (pv 1) pa_nil)) pa_nil))) (fun _ _ => rfl)))), ?_⟩
  obtain ⟨x, ds⟩ := y
  dsimp only at hx ⊢
  refine x_ret (ev_op (ev_var (s := .dat (.list ds)) rfl) fun s1 g1 ⟨a1, b1⟩ => EvS.imp (ev_callD (P := fun s _ => ∃ d : Nat, d < ds.length ∧ s = .dat (.int (d : Nat))) (av_two (ev_var rfl) (ev_len (ev_var rfl) (n := ds.length) rfl)) (rc_take (EmbS.self x) hx fun d hd => ⟨d, hd, rfl⟩)) fun s2 g2 ⟨d, hd, e⟩ => ?_)
  subst a1; subst e
  exact RvS.imp (rv_ix (at_nat (List.getElem?_eq_getElem hd))) fun s g ⟨a, b⟩ => ⟨_, List.getElem_mem hd, a⟩
abbrev sp_L_mixed (K : PySem.W.Frag) : Sp := spS K (β := List PyData) (fun y => [.val (.ref y.1.src), .dat (.list y.2)]) (fun y => nols y.2 = true ∧ y.2.length ≤ 10000) (fun y s => ∃ es, s = .dat (.list es) ∧ es.Perm y.2)
theorem ok_L_mixed (Bt : Blt mg) (D_L_mixed : Def K mg "_law_mixed" s_L_mixed p_L_mixed) (D_L_take : Def K mg "_law_take" s_L_take p_L_take) : FnOk P w K mg base CX0 2 D_L_mixed.f D_L_mixed.fd p_L_mixed (sp_L_mixed K) := by
  have B := Bt
  have G_L_take : FnOk P w K mg base CX0 1 D_L_take.f D_L_take.fd p_L_take (sp_L_take K) := ok_L_take Bt D_L_take
  refine fn_okG (α := SI × List PyData) D_L_mixed.fn sc_L_mixed (fun _ => rfl) fun cdv A outer s H E hr y hx => ⟨_, (pss_cons (ps_set (i := 2) sc_L_mixed.nd rfl (by first | exact Or.inl rfl | exact Or.inr rfl) (pe_lst pa_nil))
  (pss_cons (ps_for PassesOwn.never rfl (pi_list (pv 1)) (pg_name (i := 3) sc_L_mixed.nd rfl (by first | exact Or.inl rfl | exact Or.inr rfl)) (pss_one (ps_expr (pe_bm PySem.F.plainAttrs_list PySem.F.slot_list_insert PySem.F.type_list_insert mt_insert (pv 2) (pa_cons (pe_call G_L_take (hr.mono (by omega)) rfl D_L_take.g D_L_take.fn.kp D_L_take.b .nil pass0 (pa_cons (pv 0) (pa_cons (pe_op op_add (pe_callB (w_len K) (by rfl) B.len bt_len (pa_cons (pv 2) pa_nil)) pe_int) pa_nil))) (pa_cons (pv 3) pa_nil))))))
  (pss_one (ps_ret (pv 2))))), ?_⟩
  obtain ⟨x, ds⟩ := y
  obtain ⟨hn, hl⟩ := hx
  dsimp only at hn hl ⊢
  have hm := nols_mem.mp hn
  refine x_ownR fun p => ?_
  refine x_seqM (fun δ' g' => (∃ z, δ' = [.val (.ref x.src), .dat (.list ds), .val (.ref p), z]) ∧ g'.2.Perm ds) (x_forL (ds := ds) (ev_var rfl) (fun i δ' g' => (∃ z, δ' = [.val (.ref x.src), .dat (.list ds), .val (.ref p), z]) ∧ g'.2.Perm (ds.take i)) ⟨⟨.no, rfl⟩, List.Perm.refl _⟩ (fun i d δ' g' hi hJ => ?_) fun δ' g' hJ => ⟨hJ.1, by have := hJ.2; rwa [List.take_length] at this⟩) fun δ' g' h => ?_
  · obtain ⟨⟨z, rfl⟩, hp⟩ := hJ
    have hlen : g'.2.length ≤ 10000 := by
      rw [hp.length_eq, List.length_take]
      omega
    refine gs_name (x_drop (ev_ownIns (P1 := fun _ _ => True) (ev_var rfl) (ev_callD (av_two (ev_var rfl) (EvS.asD (ev_opD (ev_cb1 (ev_var rfl) rc_ownLen) ev_int rv_add) (show _ = PyData.int ((g'.2.length + 1 : Nat) : Int) by simp))) (rc_take (EmbS.own x p) ⟨by omega, by omega⟩ fun n hn => ⟨rfl, n, rfl, by omega⟩)) (ev_var rfl) (hm d (List.mem_of_getElem? hi)) (by omega) fun n hn => ⟨⟨_, rfl⟩, ?_⟩))
    rw [List.take_add_one, hi]
    show (g'.2.take n ++ [d] ++ g'.2.drop n).Perm (ds.take i ++ [d])
    refine List.Perm.trans ?_ (hp.append_right [d])
    have h1 : (g'.2.take n ++ [d] ++ g'.2.drop n).Perm (g'.2.take n ++ g'.2.drop n ++ [d]) := by
      rw [List.append_assoc, List.append_assoc]
      exact (List.perm_append_comm).append_left _
    rw [List.take_append_drop] at h1
    exact h1
  · obtain ⟨⟨z, rfl⟩, hp⟩ := h
    exact x_ret (EvS.to (ev_var rfl) (.inl ⟨rfl, by rw [hp.length_eq]; exact len100 (by omega), _, rfl, hp⟩))
abbrev ABC : Str := "abcdefgh"
theorem abc_signs : sgnD ABC = abc.map .str := by
  show (ABC.cps.toList.map fun c => PyData.str ⟨#[c]⟩) = _
  rw [show ABC.cps.toList = [97, 98, 99, 100, 101, 102, 103, 104] from letters_cps]
  rfl
theorem abc_nols : nols (abc.map PyData.str) = true := rfl
theorem abc_len : (abc.map PyData.str).length = 8 := rfl
abbrev sp_L_signsOf (K : PySem.W.Frag) : Sp := spS K (β := Nat) (fun y => [.val (.ref y.1.src), .dat (.int (y.2 : Nat))]) (fun y => 0 < y.2 ∧ y.2 < 8) (fun y s => ∃ ds, s = .dat (.list ds) ∧ 0 < ds.length ∧ ds.length ≤ 8 ∧ ∀ d ∈ ds, isLet d = true)
theorem ok_L_signs (Bt : Blt mg) (D_L_signs : Def K mg "_law_signs" s_L_signs p_L_signs) (D_L_mixed : Def K mg "_law_mixed" s_L_mixed p_L_mixed) (D_L_take : Def K mg "_law_take" s_L_take p_L_take) : FnOk P w K mg base CX0 3 D_L_signs.f D_L_signs.fd p_L_signs (sp_L_signsOf K) := by
  have B := Bt
  have G_L_take : FnOk P w K mg base CX0 1 D_L_take.f D_L_take.fd p_L_take (sp_L_take K) := ok_L_take Bt D_L_take
  have G_L_mixed : FnOk P w K mg base CX0 2 D_L_mixed.f D_L_mixed.fd p_L_mixed (sp_L_mixed K) := ok_L_mixed Bt D_L_mixed D_L_take
  refine fn_okG (α := SI × Nat) D_L_signs.fn sc_L_signs (fun _ => rfl) fun cdv A outer s H E hr y hx => ⟨_, (pss_cons (ps_set (i := 2) sc_L_signs.nd rfl (by first | exact Or.inl rfl | exact Or.inr rfl) (pe_call G_L_mixed (hr.mono (by omega)) rfl D_L_mixed.g D_L_mixed.fn.kp D_L_mixed.b .nil pass0 (pa_cons (pv 0) (pa_cons (pe_callTy w_listStr (by rfl) B.list_ bt_list (pa_cons pe_str pa_nil)) pa_nil))))
  (pss_one (ps_ret (pe_slice (w_slL K) (pv 2) po_none (po_some (pe_op op_add pe_int (pe_call G_L_take (hr.mono (by omega)) rfl D_L_take.g D_L_take.fn.kp D_L_take.b .nil pass0 (pa_cons (pv 0) (pa_cons (pv 1) pa_nil))))))))), ?_⟩
  obtain ⟨x, m⟩ := y
  obtain ⟨h1, h2⟩ := hx
  dsimp only at h1 h2 ⊢
  refine x_seq (x_asg (ev_callD (av_two (ev_var rfl) (EvS.asD (ev_cb1 ev_str (rc_listStr (by decide))) (by rw [abc_signs]))) (rc_spS (EmbS.self x) (abc.map .str) rfl ⟨abc_nols, by show (abc.map PyData.str).length ≤ 10000; rw [abc_len]; decide⟩ fun s ⟨es, e, hp⟩ => ?_)))
  subst e
  have hl : es.length = 8 := by rw [hp.length_eq]; exact abc_len
  refine x_ret (ev_slLS (ds := es) (ev_var rfl) (P1 := fun s _ => ∃ d : Nat, d < m ∧ s = .dat (.int ((1 + d : Nat) : Int))) (ev_op ev_int (fun s1 g1 ⟨a1, b1⟩ => EvS.imp (ev_callD (P := fun s _ => ∃ d : Nat, d < m ∧ s = .dat (.int (d : Nat))) (av_two (ev_var rfl) (ev_var rfl)) (rc_take (EmbS.self x) ⟨h1, by omega⟩ fun d hd => ⟨d, hd, rfl⟩)) fun s2 g2 ⟨d, hd, e⟩ => ?_)) fun s g1 ⟨d, hd, e⟩ => ⟨_, e, ?_⟩)
  · subst a1; subst e
    exact RvS.imp rv_add fun s g ⟨a, b⟩ => ⟨d, hd, by rw [a]; simp⟩
  · refine ⟨_, rfl, ?_, ?_, fun e he => ?_⟩
    · rw [List.length_take]; omega
    · rw [List.length_take]; omega
    · have := hp.mem_iff.mp (List.mem_of_mem_take he)
      obtain ⟨z, hz, rfl⟩ := List.mem_map.mp this
      exact mem_abc.mp hz
end
end Z
/-! the source is made; a term is drawn -/
namespace Z
open PySem L2
section
variable {P : Program} {w : World} {K : PySem.W.Frag} {mg : Str → Option Value} {base : Heap}
def sp_L_source (K : PySem.W.Frag) : Sp := fun vs H Q _ => ∃ (a : Addr) (ns : List Int), vs = [.ref a] ∧ SqL K H a (ns.map V.int) ∧ ns.length ≤ sizeLine ∧ ∀ (s c : Addr) (cs : List Int) (H' : Hp), Same H H' → H s = none → H c = none → c ≠ s → cs.length ≤ 63 → H' s = some (.lst (lst4 c (0, 0, 3818, 0))) → H' c = some (.lst (cs.map V.int)) → Q (.ref s) H'
theorem ok_L_source (Bt : Blt mg) (D_L_source : Def K mg "_law_source" s_L_source p_L_source) : FnOk P w K mg base CX0 1 D_L_source.f D_L_source.fd p_L_source (sp_L_source K) := by
  have B := Bt
  refine D_L_source.fn.ok sc_L_source (fun vs H Q E ⟨a, _, h, _⟩ => by rw [h]; rfl) fun cdv A outer s H vs Q E hr ⟨a, ns, hv, ha, hz, q⟩ => ⟨_, (pss_one (ps_ret (pe_lst (pa_cons (pe_callTy (w_list K) (by rfl) B.list_ bt_list (pa_cons (pe_slice (w_slL K) (pv 0) po_none (po_some pe_int)) pa_nil)) (pa_cons pe_int (pa_cons pe_int (pa_cons pe_int (pa_cons pe_int pa_nil)))))))), ?_⟩
  subst hv
  refine ⟨_, rfl, 63, rfl, a, _, rfl, ha, fun t ht => ?_⟩
  have hcut : cutV (ns.map V.int) none (some 63) = (ns.take 63).map V.int := by
    unfold cutV
    rw [HT.sIx_none, show HT.sIx (ns.map V.int).length (ns.map V.int).length (some 63) = min 63 (ns.map V.int).length from HT.sIx_nat _ _ 63, List.drop_zero, Nat.sub_zero, List.map_take]
    by_cases h : 63 ≤ (ns.map V.int).length
    · rw [Nat.min_eq_left h]
    · rw [Nat.min_eq_right (by omega), List.take_of_length_le (Nat.le_refl _), List.take_of_length_le (by omega)]
  refine ⟨t, _, rfl, .inl (SqL.of upd_same), fun c hc => ?_⟩
  have nct : c ≠ t := fun z => by rw [z, upd_same] at hc; cases hc
  rw [upd_ne nct] at hc
  refine ⟨by show 5 ≤ sizeLine; decide, fun s hs => ?_⟩
  have nsc : s ≠ c := fun z => by rw [z, upd_same] at hs; cases hs
  rw [upd_ne nsc] at hs
  have nst : s ≠ t := fun z => by rw [z, upd_same] at hs; cases hs
  rw [upd_ne nst] at hs
  refine q s c (ns.take 63) _ (fun x o h => ?_) hs hc nsc.symm (by rw [List.length_take]; omega) upd_same ?_
  · rw [upd_ne (ne_of_none h hs), upd_ne (ne_of_none h hc), upd_ne (ne_of_none h ht)]
    exact h
  · rw [upd_ne nsc.symm, upd_same, hcut]
end
/-! ### the room -/
structure RI where
  x : SI
  rm : Addr
  hR : x.N rm
  ne : rm ≠ x.src
  nc : rm ≠ x.cells
def WR (y : RI) : Wd where
  G := Nat
  M := fun a => a = y.x.src ∨ a = y.rm
  N := y.x.N
  I := fun g H => (WS y.x).I () H ∧ H y.rm = some (.lst [.int (g : Nat)])
  sub := fun a e => e.elim (fun e => e ▸ y.x.hS) fun e => e ▸ y.hR
  loc := fun {g H H'} i k t => ⟨(WS y.x).loc i.1 k t, (k _ y.hR).trans i.2⟩
  trk := fun i n => (WS y.x).trk i.1 n
  mu := fun {g H a} i e => by
    rcases e with e | e
    · exact (WS y.x).mu i.1 e
    · subst e
      rw [i.2]
      trivial
abbrev rmN {y : RI} (g : (WR y).G) : Nat := g
def EmbS.room (y : RI) : EmbS y.x (WR y) := ⟨rfl, fun _ m => .inl m, fun _ _ i => i.1, fun _ _ _ i e i' => ⟨i', e.keep _ _ (fun m => y.ne m) i.2⟩⟩
section
variable {K : PySem.W.Frag} {y : RI} {δ : List Sl} {g : (WR y).G} {te : TE} {P : Po (WR y)} {j : Nat}
theorem ev_room (h : δ[j]? = some (.val (.ref y.rm))) : EvD K (WR y) (tOp (rIx K) (tVar j) (tC (.int 0))) δ g (.int ((rmN g) : Int)) := ev_opD (ev_var h) ev_int (fun v1 v2 H hI r1 r2 Q q => by
  cases (show v1 = V.ref y.rm from r1)
  cases (show Da K _ H v2 (.int 0) from r2)
  exact Or.inl ⟨_, _, 0, _, rfl, rfl, SqL.of hI.2, rfl, q _ (.dat (.int _)) _ H (Stp.refl H) hI (Da.int _) ⟨rfl, rfl⟩⟩)
theorem x_room (n : Nat) (h : δ[j]? = some (.val (.ref y.rm))) (hv : EvD K (WR y) te δ g (.int (n : Nat))) (k : P.nx δ n) : ExS K (WR y) (tAsg te (gSub (tVar j) (tC (.int 0)) rSetL)) δ g P :=
  x_asgSub hv (P2 := fun _ _ => True) (P3 := fun _ _ => True) fun s1 g1 ⟨a1, b1⟩ => by
    subst a1; subst b1
    refine EvS.imp (ev_var h) fun s2 g2 ⟨a2, b2⟩ => ?_
    subst a2; subst b2
    refine EvS.imp ev_int fun s3 g3 ⟨a3, b3⟩ => ?_
    subst a3; subst b3
    intro v1 v2 v3 H hI r1 r2 r3 Q q
    cases (show Da K _ H v1 (.int n) from r1)
    cases (show v2 = V.ref y.rm from r2)
    cases (show Da K _ H v3 (.int 0) from r3)
    refine ⟨y.rm, _, 0, 0, rfl, rfl, hI.2, rfl, ?_⟩
    obtain ⟨⟨g4, i⟩, i2⟩ := hI
    refine q n _ ⟨fun a o m qa => ?_, fun a o qa => ?_⟩ ⟨⟨g4, fun a n => ?_, ?_, ?_, i.2.2.2⟩, upd_same⟩ k
    · rw [upd_ne fun z => m (.inr z)]; exact qa
    · by_cases e : a = y.rm
      · rw [e]; exact ⟨_, upd_same⟩
      · exact ⟨o, by rw [upd_ne e]; exact qa⟩
    · by_cases e : a = y.rm
      · rw [e]; exact ⟨_, upd_same⟩
      · rw [upd_ne e]; exact i.1 a n
    · rw [upd_ne y.nc.symm]; exact i.2.1
    · rw [upd_ne y.ne.symm]; exact i.2.2.1
end
section
variable {P : Program} {w : World} {K : PySem.W.Frag} {mg : Str → Option Value} {base : Heap}
abbrev sp_L_term (K : PySem.W.Frag) (n : Nat) : Sp := spG K (α := RI × List PyData × Nat × Nat) (fun y => WR y.1) (fun y => y.2.2.2) (fun y => [.val (.ref y.1.x.src), .dat (.list y.2.1), .dat (.int (y.2.2.1 : Nat)), .val (.ref y.1.rm)])
  (fun y => y.2.2.1 < n ∧ (0 < y.2.1.length ∧ y.2.1.length ≤ 8 ∧ ∀ d ∈ y.2.1, isLet d = true) ∧ y.2.2.2 ≤ 1000) (fun y s g' => ∃ d, s = .dat d ∧ isT (max y.2.2.1 1) d = true ∧ lv d + (rmN g') ≤ y.2.2.2 + 1)
theorem let_T {n : Nat} {d : PyData} (h : isLet d = true) : isT (max n 1) d = true ∧ lv d = 1 := by
  cases d with
  | str z =>
    refine ⟨?_, lv_str z⟩
    rw [isT_str]
    have : isLetS z = true := h
    rw [this, Bool.and_true]
    exact decide_eq_true (by omega)
  | _ => cases h
theorem ok_L_term (Bt : Blt mg) (D_L_term : Def K mg "_law_term" s_L_term p_L_term) (D_L_pick : Def K mg "_law_pick" s_L_pick p_L_pick) (D_L_take : Def K mg "_law_take" s_L_take p_L_take) : ∀ n, FnOk P w K mg base CX0 (n + 3) D_L_term.f D_L_term.fd p_L_term (sp_L_term K n) := by
  have B := Bt
  intro n
  have G_L_take : FnOk P w K mg base CX0 1 D_L_take.f D_L_take.fd p_L_take (sp_L_take K) := ok_L_take Bt D_L_take
  have G_L_pick : FnOk P w K mg base CX0 2 D_L_pick.f D_L_pick.fd p_L_pick (sp_L_pick K) := ok_L_pick Bt D_L_pick D_L_take
  induction n with
  | zero => exact fn_void fun x h => Nat.not_lt_zero _ h.1
  | succ n ih =>
    have G_L_term := ih
    refine fn_okG (k := n + 3) (α := RI × List PyData × Nat × Nat) D_L_term.fn sc_L_term (fun _ => rfl) fun cdv A outer s H E hr y hx => ⟨_, (pss_cons (ps_set (i := 4) sc_L_term.nd rfl (by first | exact Or.inl rfl | exact Or.inr rfl) (pe_op op_add pe_int (pe_op op_fdiv (pe_call G_L_take (hr.mono (by omega)) rfl D_L_take.g D_L_take.fn.kp D_L_take.b .nil pass0 (pa_cons (pv 0) (pa_cons pe_int pa_nil))) pe_int)))
  (pss_cons (ps_if (PW.pt (pw_or (pt_cmpR op_lt (pv 2) pe_int (nomark _)) (pw_or (pt_cmpR op_lt (pe_ix (w_ix K) (pv 3) pe_int (fun _ _ => rfl)) (pe_op op_sub (pv 4) pe_int) (nomark _)) (pw_or1 (pt_cmpR (w_eqD K hr.units) (pe_call G_L_take (hr.mono (by omega)) rfl D_L_take.g D_L_take.fn.kp D_L_take.b .nil pass0 (pa_cons (pv 0) (pa_cons pe_int pa_nil))) pe_int (nomark _)))))) (pss_one (ps_ret (pe_call G_L_pick (hr.mono (by omega)) rfl D_L_pick.g D_L_pick.fn.kp D_L_pick.b .nil pass0 (pa_cons (pv 0) (pa_cons (pv 1) pa_nil))))) pss_nil)
  (pss_cons (ps_asg (pe_op op_add (pe_op op_sub (pe_ix (w_ix K) (pv 3) pe_int (fun _ _ => rfl)) (pv 4)) pe_int) (pg_sub (pv 3) pe_int set_list))
  (pss_cons (ps_set (i := 5) sc_L_term.nd rfl (by first | exact Or.inl rfl | exact Or.inr rfl) (pe_call G_L_pick (hr.mono (by omega)) rfl D_L_pick.g D_L_pick.fn.kp D_L_pick.b .nil pass0 (pa_cons (pv 0) (pa_cons (pe_lst (pa_cons pe_str (pa_cons pe_str pa_nil))) pa_nil))))
  (pss_one (ps_ret (pe_callTy (w_tuple K) (by rfl) B.tuple_ bt_tuple (pa_cons (pe_op op_cat (pe_lst (pa_cons (pv 5) pa_nil)) (pe_lc (own := [("_law_k", 6)]) (g := gName 6) (tt := tYes) (by rfl) sc_L_term.nd (pi_range1 (by rfl) B.range (pa_cons (pv 4) pa_nil)) (blkOk_by (N := n_L_term) (sc := defScope s_L_term) (by decide +kernel)) (fun _ _ _ _ _ => (pg_name (i := 6) sc_L_term.nd rfl (by first | exact Or.inl rfl | exact Or.inr rfl))) (fun _ _ _ _ _ => pts_nil) (fun _ _ _ _ _ => (pe_call G_L_term (hr.mono (by omega)) rfl D_L_term.g D_L_term.fn.kp D_L_term.b .nil pass0 (pa_cons (pv 0) (pa_cons (pv 1) (pa_cons (pe_op op_sub (pv 2) pe_int) (pa_cons (pv 3) pa_nil)))))))) pa_nil)))))))), ?_⟩
    obtain ⟨y, sg, deep, R⟩ := y
    obtain ⟨hn, ⟨s1, s2, s3⟩, hR⟩ := hx
    dsimp only at hn s1 s2 s3 hR ⊢
    have emb := EmbS.room y
    refine x_seq (x_asg (ev_op ev_int fun t1 g1 ⟨a1, b1⟩ => EvS.imp (P := fun s g' => g' = g1 ∧ ∃ m : Nat, m ≤ 2 ∧ s = .dat (.int (m : Nat))) (ev_op (ev_callD (P := fun s g' => g' = g1 ∧ ∃ d : Nat, d < 5 ∧ s = .dat (.int (d : Nat))) (av_two (ev_var rfl) ev_int) (rc_take (EmbS.room y) (m := 5) (by decide) fun d hd => ⟨rfl, d, hd, rfl⟩)) fun t2 g2 ⟨b2, d, hd, a2⟩ => EvS.imp ev_int fun t3 g3 ⟨a3, b3⟩ => ?_) fun t2 g2 ⟨b2, m, hm, a2⟩ => ?_))
    · subst a2; subst b2; subst a3; subst b3
      exact RvS.imp (rv_divI (by decide)) fun s g ⟨a, b⟩ => ⟨b, d / 2, by omega, by rw [a]; simp⟩
    have b1 := b1.symm
    subst a1; subst b1
    have b2 := b2.symm
    subst a2; subst b2
    refine RvS.imp rv_add fun s g ⟨a, b⟩ => ?_
    have b := b.symm
    subst a; subst b
    have e2 : (2 : Int) + (m : Int) = ((2 + m : Nat) : Int) := by omega
    rw [e2]
    have hmany : 2 ≤ 2 + m ∧ 2 + m ≤ 4 := ⟨by omega, by omega⟩
    generalize 2 + m = many at hmany
    refine x_seq (x_if (TvS.imp (P := fun b g' => g' = R ∧ (b = false → 2 ≤ deep ∧ many ≤ R + 1)) (tv_orS (P1 := fun b g' => g' = R ∧ b = decide ((deep : Int) < 2)) (TvS.to (tv_test (ev_opD (ev_var rfl) ev_int rv_lt)) ⟨rfl, rfl⟩) (fun g1 ⟨hg, h1⟩ => ?_) fun g1 ⟨hg, _⟩ => ⟨hg, fun z => by cases z⟩) fun b g' ⟨hg, hb⟩ => ⟨fun _ => ?_, fun q => x_next ?_⟩))
    · have h1' := of_decide_eq_false h1.symm
      subst hg
      refine tv_orS (P1 := fun b g' => g' = g1 ∧ b = decide (((rmN g1) : Int) < (many : Int) - 1)) (TvS.to (tv_test (ev_opD (ev_room rfl) (ev_opD (ev_var rfl) ev_int rv_sub) rv_lt)) ⟨rfl, rfl⟩) (fun g2 ⟨hg, h2⟩ => ?_) fun g2 ⟨hg, _⟩ => ⟨hg, fun z => by cases z⟩
      have h2' := of_decide_eq_false h2.symm
      subst hg
      refine tv_testS (ev_op (P1 := fun s g' => g' = g2 ∧ ∃ d : Nat, s = .dat (.int (d : Nat))) (ev_callD (av_two (ev_var rfl) ev_int) (rc_take (EmbS.room y) (m := 4) (by decide) fun d hd => ⟨rfl, d, rfl⟩)) fun t1 g3 ⟨b3, d, a3⟩ => EvS.imp ev_int fun t4 g4 ⟨a4, b4⟩ => ?_)
      subst a3; subst b3; subst a4; subst b4
      exact RvS.imp (rv_eqD (Fit.shaped (Fit.int (n := 0) _) (by decide)) (Fit.shaped (Fit.int (n := 0) _) (by decide))) fun s g ⟨a, b⟩ => ⟨_, a, b, fun _ => ⟨by omega, by dsimp only [rmN] at h2'; omega⟩⟩
    · have hg := hg.symm
      subst hg
      exact x_ret (ev_callD (av_two (ev_var rfl) (ev_var rfl)) (rc_pick (EmbS.room y) ⟨s1, by omega⟩ fun d hd => ⟨d, rfl, (let_T (s3 d hd)).1, by rw [(let_T (n := deep) (s3 d hd)).2]; exact Nat.le_of_eq (Nat.add_comm _ _)⟩))
    obtain ⟨hdeep, hmR⟩ := hb q
    have hg := hg.symm
    subst hg
    refine x_seq (x_room (R + 1 - many) rfl (EvS.asD (ev_opD (ev_opD (ev_room rfl) (ev_var rfl) rv_sub) ev_int rv_add) (by congr 1; show ((R : Nat) : Int) - (many : Int) + 1 = _; omega)) ?_)
    refine x_seq (x_asg (ev_callD (av_two (ev_var rfl) (ev_lst (ds := [.str AMP, .str BAR]) (av_two ev_str ev_str))) (rc_pick (EmbS.room y) ⟨by decide, by decide⟩ fun o ho => ?_)))
    have hop : ∃ z, o = .str z ∧ isOp z = true := by
      simp only [List.mem_cons, List.not_mem_nil, or_false] at ho
      rcases ho with rfl | rfl
      · exact ⟨_, rfl, opA⟩
      · exact ⟨_, rfl, opB⟩
    obtain ⟨o, rfl, hop⟩ := hop
    refine x_ret (ev_cb (PA := fun ss g' => ∃ ps : List PyData, ss = [.dat (.list (.str o :: ps))] ∧ ps.length = many ∧ (∀ p ∈ ps, isT (deep - 1) p = true) ∧ (ps.map lv).sum + (rmN g') ≤ R + 1) (av_consS (P1 := fun s g' => ∃ ps : List PyData, s = .dat (.list (.str o :: ps)) ∧ ps.length = many ∧ (∀ p ∈ ps, isT (deep - 1) p = true) ∧ (ps.map lv).sum + (rmN g') ≤ R + 1) (ev_op (ev_lst (ds := [.str o]) (av_one (ev_var rfl))) fun t1 g1 ⟨a1, b1⟩ => EvS.imp (P := fun s g' => ∃ ps : List PyData, s = .dat (.list ps) ∧ ps.length = many ∧ (∀ p ∈ ps, isT (deep - 1) p = true) ∧ (ps.map lv).sum + (rmN g') ≤ R + 1) (ev_lcR (n := (many : Int)) (av_one (ev_var rfl)) (by omega) (fun i acc g' => acc.length = i ∧ (∀ p ∈ acc, isT (deep - 1) p = true) ∧ (acc.map lv).sum + (rmN g') ≤ R + 1 - many + i) ⟨rfl, (fun p hp => by cases hp), ?_⟩ (fun i acc g' hi _ hJ => ?_) fun acc g' _ _ hJ => ?_) fun t2 g2 ⟨ps, a2, h2, h3, h4⟩ => ?_) fun t1 g1 ⟨ps, a1, h⟩ => av_nil.imp fun ss g2 ⟨a2, b2⟩ => ⟨ps, by rw [a1, a2], h.1, h.2.1, by rw [b2]; exact h.2.2⟩) fun ss g1 ⟨ps, a, h2, h3, h4⟩ => ?_)
    · subst b1
      show 0 + (R + 1 - many) ≤ R + 1 - many + 0
      omega
    · obtain ⟨j1, j2, j3⟩ := hJ
      refine cg_name (by simp) (tv_yes.to ⟨fun _ => EvS.imp (ev_callD (P := fun s g2 => ∃ d, s = .dat d ∧ isT (max (deep - 1) 1) d = true ∧ lv d + (rmN g2) ≤ (rmN g') + 1) (av_cons (ev_var rfl) (av_cons (ev_var rfl) (av_two (EvS.asD (ev_opD (ev_var rfl) ev_int rv_sub) (show _ = PyData.int ((deep - 1 : Nat) : Int) by congr 1; omega)) (ev_var rfl)))) (rc_spG (α := RI × List PyData × Nat × Nat) (y, sg, deep - 1, g') rfl ⟨by show deep - 1 < n; omega, ⟨s1, s2, s3⟩, by show (rmN g') ≤ 1000; omega⟩ rfl (fun _ m => m) (fun H i => i) fun s g2 H H' _ _ i' p => ⟨g2, i', p⟩)) fun s g2 ⟨d, e, h1, h2⟩ => ⟨d, e, isT_nol h1, ?_⟩, fun z => by cases z⟩)
      have em : max (deep - 1) 1 = deep - 1 := by omega
      rw [em] at h1
      refine ⟨by rw [List.length_append, j1]; rfl, fun p hp => ?_, ?_⟩
      · rcases List.mem_append.mp hp with hp | hp
        · exact j2 p hp
        · rw [List.mem_singleton.mp hp]; exact h1
      · rw [List.map_append, List.sum_append]
        show _ + (lv d + 0) + (rmN g2) ≤ _
        have j3' : (acc.map lv).sum + (rmN g') ≤ R + 1 - many + i := j3
        have h2' : lv d + (rmN g2) ≤ (rmN g') + 1 := h2
        omega
    · obtain ⟨j1, j2, j3⟩ := hJ
      rw [Int.toNat_natCast] at j1 j3
      refine ⟨acc, rfl, j1, j2, ?_⟩
      have j3' : (acc.map lv).sum + (rmN g') ≤ R + 1 - many + many := j3
      show (acc.map lv).sum + (rmN g') ≤ R + 1
      omega
    · subst a1; subst a2
      exact RvS.imp (rv_cat (by rw [List.length_cons, List.length_nil, h2]; exact len100 (by omega))) fun s g ⟨a, b⟩ => ⟨ps, a, h2, h3, by rw [b]; exact h4⟩
    · subst a
      refine RcS.imp rc_tupL fun s g2 ⟨a, b⟩ => ⟨_, a, ?_, ?_⟩
      · have em : max deep 1 = (deep - 1) + 1 := by omega
        rw [em]
        exact isT_mk hop (by omega) h3
      · rw [b, lv_node]
        exact h4
end
end Z
/-! the same word, written otherwise -/
namespace Z
open PySem L2
section
variable {K : PySem.W.Frag} {W : Wd} {δ : List Sl} {g : W.G} {te ti : TE} {P : Po W} {u : TS}
theorem tv_way {w k : Int} (h : EvD K W te δ g (.int w)) : TvD K W (tTest (tOp (rEqD K) te (tC (.int k)))) δ g (decide (w = k)) :=
  TvS.as (tv_test (ev_opD h ev_int (rv_eqD (Fit.shaped (Fit.int (n := 0) _) (by decide)) (Fit.shaped (Fit.int (n := 0) _) (by decide))))) rfl
/-- a reading that makes a new list -/
def FrL (K : PySem.W.Frag) (W : Wd) (te : TE) (δ : List Sl) (g : W.G) (ds : List PyData) : Prop :=
  ∀ σ H, W.I g H → Fr K W.N H σ δ → ∀ Q : VK, (∀ p H1 xs, Stp W H H1 → W.I g H1 → H1 p = none → DaAll K W.N H1 xs ds → Q (.ref p) (upd H1 p (.lst xs))) → te σ H Q
theorem fr_listT {ds : List PyData} (h : EvD K W te δ g (.tuple ds)) : FrL K W (tCB (rListC K) (tCons te tNil)) δ g ds := fun σ H i f Q q =>
  h σ H i f _ fun v s g1 H1 e1 i1 r1 ⟨a, b⟩ => by
    subst a; subst b
    have r' : Da K W.N H1 v (.tuple ds) := r1
    cases r' with
    | tup x z t => exact ⟨_, _, rfl, .inr x, fun l hl => q l H1 _ e1 i1 hl t⟩
theorem x_ownF {i : Nat} {ds : List PyData} (hf : FrL K W te δ g ds) (hn : nols ds = true) (h : ∀ p, ExS K (W.own K p) u (δ.set i (.val (.ref p))) (g, ds) { nx := fun δ' g' => P.nx δ' g'.1, rt := fun s g' => P.rt s g'.1, bk := fun δ' g' => P.bk δ' g'.1, ct := fun δ' g' => P.ct δ' g'.1 }) : ExS K W (tSeq (tAsg te (gName i)) u) δ g P := fun D σ H iH f d =>
  hf σ H iH f _ fun p H1 xs e1 i1 hp da => by
    have nN : ¬ W.N p := fun n => by
      obtain ⟨o, q⟩ := W.trk i1 n
      rw [hp] at q
      cases q
    have hsub : ∀ a, (W.N a ∨ a = p) → (∃ o, H1 a = some o) → W.N a := fun a n ⟨o, q⟩ => n.elim id fun e => by subst e; rw [hp] at q; cases q
    have iO : (W.own K p).I (g, ds) (upd H1 p (.lst xs)) := ⟨W.mono i1 (Same.new hp), nN, hn, xs, upd_same, das_nol hn (DaAll.stp (g := g) i1 (Stp.same (Same.new hp)) da)⟩
    have fO : Fr K (W.own K p).N (upd H1 p (.lst xs)) (σ.set i (some (.ref p))) (δ.set i (.val (.ref p))) := Fr.set (s := .val (.ref p)) (Fr.same (Same.new hp) ((f.stp iH e1).sub hsub)) i rfl
    have back : ∀ {H' : Hp}, Stp (W.own K p) (upd H1 p (.lst xs)) H' → Stp W H H' := fun {H'} e => ⟨fun a o m qa => by
        have q1 := e1.keep a o m qa
        have ne : a ≠ p := fun z => by subst z; rw [hp] at q1; cases q1
        exact e.keep a o (fun z => z.elim m ne) (by rw [upd_ne ne]; exact q1), fun a o qa => by
        obtain ⟨o1, q1⟩ := e1.there a o qa
        exact e.there a o1 ((Same.new hp) a o1 q1)⟩
    exact h p D _ _ iO fO ⟨fun σ' δ' g' H' e i' f' q => d.nx σ' δ' g'.1 H' (back e) i'.1 (f'.sub fun a n _ => .inl n) q, fun v s g' H' e i' r q => d.rt v s g'.1 H' (back e) i'.1 (r.sub fun a n _ => .inl n) q,
      fun σ' δ' g' H' e i' f' q => d.bk σ' δ' g'.1 H' (back e) i'.1 (f'.sub fun a n _ => .inl n) q, fun σ' δ' g' H' e i' f' q => d.ct σ' δ' g'.1 H' (back e) i'.1 (f'.sub fun a n _ => .inl n) q⟩
theorem ev_ownIx {p : Addr} {δ : List Sl} {g : (W.own K p).G} {tx : TE} {n : Nat} {d : PyData} (hx : EvV K (W.own K p) tx δ g (.ref p)) (hi : EvD K (W.own K p) ti δ g (.int (n : Nat))) (h : g.2[n]? = some d) : EvD K (W.own K p) (tOp (rIx K) tx ti) δ g d := ev_opD hx hi fun v1 v2 H hI r1 r2 Q q => by
  cases (show v1 = V.ref p from r1)
  cases (show Da K _ H v2 (.int n) from r2)
  obtain ⟨j1, j2, j3, xs, c, dd⟩ := id hI
  obtain ⟨v, e1, e2⟩ := dd.get h
  exact Or.inl ⟨_, _, _, v, rfl, rfl, SqL.of c, atI_nat e1, q v (.dat d) _ H (Stp.refl H) hI e2 ⟨rfl, rfl⟩⟩
theorem x_ownSet {p : Addr} {δ : List Sl} {g : (W.own K p).G} {i : Nat} {n : Nat} {P1 : Sl → (W.own K p).G → Prop} {P : Po (W.own K p)} (hx : δ[i]? = some (.val (.ref p))) (hv : EvS K (W.own K p) te δ g P1) (k : ∀ s g1, P1 s g1 → ∃ d, s = .dat d ∧ nol d = true ∧ n < g1.2.length ∧ EvD K (W.own K p) ti δ g1 (.int (n : Nat)) ∧ P.nx δ (g1.1, g1.2.set n d)) : ExS K (W.own K p) (tAsg te (gSub (tVar i) ti rSetL)) δ g P :=
  x_asgSub hv (P2 := fun _ _ => True) (P3 := fun _ _ => True) fun s1 g1 p1 => by
    obtain ⟨d, rfl, dn, hn, hi, kn⟩ := k s1 g1 p1
    refine EvS.imp (ev_var hx) fun s2 g2 ⟨a2, b2⟩ => ?_
    subst a2; subst b2
    refine EvS.imp hi fun s3 g3 ⟨a3, b3⟩ => ?_
    subst a3; subst b3
    intro v1 v2 v3 H hI r1 r2 r3 Q q
    cases (show v2 = V.ref p from r2)
    cases (show Da K _ H v3 (.int n) from r3)
    obtain ⟨j1, j2, j3, xs, c, dd⟩ := id hI
    refine ⟨p, xs, _, n, rfl, rfl, c, ?_, ?_⟩
    · have hl : n < xs.length := by rw [dd.length]; exact hn
      unfold ixN
      rw [if_pos (by omega)]
      simp [hl]
    have hnt : ∀ a o, H a = some o → ¬ Mu (some o) → upd H p (.lst (xs.set n v1)) a = some o := fun a o qa m => by
      rw [upd_ne (fun z => by rw [z, c] at qa; cases qa; exact m trivial)]
      exact qa
    refine q (g3.1, g3.2.set n d) _ ⟨fun a o m qa => ?_, fun a o qa => ?_⟩ ⟨W.loc j1 (fun a n => upd_ne fun z => j2 (z ▸ n)) hnt, j2, ?_, _, upd_same, DaAll.set n (Da.nolk hnt _ _ dn r1) (DaAll.nolk hnt _ _ j3 dd)⟩ kn
    · rw [upd_ne fun z => m (.inr z)]; exact qa
    · by_cases e : a = p
      · rw [e]; exact ⟨_, upd_same⟩
      · exact ⟨o, by rw [upd_ne e]; exact qa⟩
    · have hm := nols_mem.mp j3
      refine nols_mem.mpr fun e he => ?_
      rcases List.mem_or_eq_of_mem_set he with he | he
      · exact hm e he
      · rw [he]; exact dn
theorem rv_catOwn {p : Addr} {g : (W.own K p).G} {ds : List PyData} (hz : ds.length + g.2.length ≤ sizeLine) : RvS K (W.own K p) rCat (.dat (.list ds)) (.val (.ref p)) g (is (.dat (.list (ds ++ g.2))) g) := fun v1 v2 H i r1 r2 Q q => by
  have r1' : Da K (W.own K p).N H v1 (.list ds) := r1
  cases (show v2 = V.ref p from r2)
  obtain ⟨j1, j2, j3, xs, c, dd⟩ := id i
  cases r1' with
  | lst a n z t =>
    have hl := hz
    rw [← t.length, ← dd.length] at hl
    exact ⟨_, _, _, _, rfl, rfl, a, c, hl, fun p' hp => q (.ref p') (.dat (.list _)) g _ (Stp.same (Same.new hp)) ((W.own K p).mono i (Same.new hp)) (new_lst i hp (by rw [List.length_append]; exact hl) (t.append dd)) ⟨rfl, rfl⟩⟩
theorem sIx_neg2 (n d : Nat) : HT.sIx n d (some (-2)) = n - 2 := by
  show (if (-2 : Int) < 0 then ((-2 : Int) + (n : Int)).toNat else min (-2 : Int).toNat n) = n - 2
  rw [if_pos (by decide)]
  omega
theorem cut_head2 (ds : List PyData) : cutD ds none (some (-2)) = ds.take (ds.length - 2) := by
  unfold cutD
  rw [HT.sIx_none, sIx_neg2, List.drop_zero, Nat.sub_zero]
theorem cut_last2 (ds : List PyData) : cutD ds (some (-2)) none = ds.drop (ds.length - 2) := by
  unfold cutD
  rw [HT.sIx_none, sIx_neg2]
  exact List.take_of_length_le (by rw [List.length_drop]; omega)
end
section
variable {P : Program} {w : World} {K : PySem.W.Frag} {mg : Str → Option Value} {base : Heap}
abbrev NOD : PyData := .dict []
abbrev sp_L_same (K : PySem.W.Frag) (n : Nat) : Sp := spS K (β := PyData) (fun y => [.val (.ref y.1.src), .dat y.2, .dat NOD]) (fun y => isT n y.2 = true ∧ lv y.2 ≤ 24) (fun y s => ∃ d, s = .dat d ∧ isT (n + 2) d = true)
theorem rc_same {x : SI} {W : Wd} {g : W.G} {E : XK} (e : EmbS x W) {n : Nat} {d : PyData} (h : isT n d = true ∧ lv d ≤ 24) {P : Sl → W.G → Prop} (k : ∀ d, isT (n + 2) d = true → P (.dat d) g) : RcS K W (fun vs H Q => sp_L_same K n vs H Q E) [.val (.ref x.src), .dat d, .dat NOD] g P :=
  rc_spS e d rfl h fun s ⟨d, h1, h2⟩ => by rw [h1]; exact k d h2
theorem two_T {n : Nat} {o : Str} {a b : PyData} (ho : isOp o = true) (ha : isT n a = true) (hb : isT n b = true) : isT (n + 1) (.tuple [.str o, a, b]) = true := isT_mk ho (Nat.le_refl 2) fun p hp => by
  simp only [List.mem_cons, List.not_mem_nil, or_false] at hp
  rcases hp with rfl | rfl
  · exact ha
  · exact hb
theorem ok_L_same_word (Bt : Blt mg) (D_L_same_word : Def K mg "_law_same_word" s_L_same_word p_L_same_word) (D_L_mixed : Def K mg "_law_mixed" s_L_mixed p_L_mixed) (D_L_pick : Def K mg "_law_pick" s_L_pick p_L_pick) (D_L_take : Def K mg "_law_take" s_L_take p_L_take) : ∀ n, FnOk P w K mg base CX0 (n + 4) D_L_same_word.f D_L_same_word.fd p_L_same_word (sp_L_same K n) := by
  have B := Bt
  intro n
  have G_L_take : FnOk P w K mg base CX0 1 D_L_take.f D_L_take.fd p_L_take (sp_L_take K) := ok_L_take Bt D_L_take
  have G_L_pick : FnOk P w K mg base CX0 2 D_L_pick.f D_L_pick.fd p_L_pick (sp_L_pick K) := ok_L_pick Bt D_L_pick D_L_take
  have G_L_mixed : FnOk P w K mg base CX0 2 D_L_mixed.f D_L_mixed.fd p_L_mixed (sp_L_mixed K) := ok_L_mixed Bt D_L_mixed D_L_take
  induction n with
  | zero => exact fn_void fun x h => by have := h.1; simp [isT] at this
  | succ n ih =>
    have G_L_same_word := ih
    refine fn_okG (k := n + 4) (α := SI × PyData) D_L_same_word.fn sc_L_same_word (fun _ => rfl) fun cdv A outer s H E hr y hx => ⟨_, (pss_cons (ps_set (i := 3) sc_L_same_word.nd rfl (by first | exact Or.inl rfl | exact Or.inr rfl) (pe_call G_L_take (hr.mono (by omega)) rfl D_L_take.g D_L_take.fn.kp D_L_take.b .nil pass0 (pa_cons (pv 0) (pa_cons pe_int pa_nil))))
  (pss_cons (ps_set (i := 4) sc_L_same_word.nd rfl (by first | exact Or.inl rfl | exact Or.inr rfl) (pe_call G_L_pick (hr.mono (by omega)) rfl D_L_pick.g D_L_pick.fn.kp D_L_pick.b .nil pass0 (pa_cons (pv 0) (pa_cons (pe_callTy w_listStr (by rfl) B.list_ bt_list (pa_cons pe_str pa_nil)) pa_nil))))
  (pss_cons (ps_if (pt_cmpR (w_eqD K hr.units) (pv 3) pe_int (nomark _)) (pss_one (ps_ret (pe_tup (pa_cons pe_str (pa_cons (pv 1) (pa_cons (pe_tup (pa_cons pe_str (pa_cons (pv 1) (pa_cons (pv 4) pa_nil)))) pa_nil)))))) pss_nil)
  (pss_cons (ps_if (pt_cmpR (w_eqD K hr.units) (pv 3) pe_int (nomark _)) (pss_one (ps_ret (pe_tup (pa_cons pe_str (pa_cons (pe_tup (pa_cons pe_str (pa_cons (pv 4) (pa_cons (pv 1) pa_nil)))) (pa_cons (pv 1) pa_nil)))))) pss_nil)
  (pss_cons (ps_if (pt_cmpR (w_eqD K hr.units) (pv 3) pe_int (nomark _)) (pss_one (ps_ret (pe_tup (pa_cons pe_str (pa_cons (pv 1) (pa_cons (pv 1) pa_nil)))))) pss_nil)
  (pss_cons (ps_if (pt_val (pe_callB (w_isi K) (by rfl) B.isinstance bt_isinstance (pa_cons (pv 1) (pa_cons (pe_bltn (v := .ty "str") (by rfl) B.str_ bt_str rfl) pa_nil)))) (pss_one (ps_ret (pv 1))) pss_nil)
  (pss_cons (ps_set (i := 5) sc_L_same_word.nd rfl (by first | exact Or.inl rfl | exact Or.inr rfl) (pe_callTy (w_list K) (by rfl) B.list_ bt_list (pa_cons (pe_slice (w_slT K) (pv 1) (po_some pe_int) po_none) pa_nil)))
  (pss_cons (ps_if (pt_cmpR (w_eqD K hr.units) (pv 3) pe_int (nomark _)) (pss_one (ps_ret (pe_callTy (w_tuple K) (by rfl) B.tuple_ bt_tuple (pa_cons (pe_op op_cat (pe_lst (pa_cons (pe_ix (w_ix K) (pv 1) pe_int (fun _ _ => rfl)) pa_nil)) (pe_call G_L_mixed (hr.mono (by omega)) rfl D_L_mixed.g D_L_mixed.fn.kp D_L_mixed.b .nil pass0 (pa_cons (pv 0) (pa_cons (pv 5) pa_nil)))) pa_nil)))) pss_nil)
  (pss_cons (ps_if (pt_cmpR (w_eqD K hr.units) (pv 3) pe_int (nomark _)) (pss_one (ps_ret (pe_callTy (w_tuple K) (by rfl) B.tuple_ bt_tuple (pa_cons (pe_op op_cat (pe_lst (pa_cons (pe_ix (w_ix K) (pv 1) pe_int (fun _ _ => rfl)) (pa_cons (pe_ix (w_ix K) (pv 1) pe_int (fun _ _ => rfl)) pa_nil))) (pv 5)) pa_nil)))) pss_nil)
  (pss_cons (ps_if (PW.pt (pw_and (pt_cmpR (w_eqD K hr.units) (pv 3) pe_int (nomark _)) (pw_and1 (pt_cmpR op_gt (pe_callB (w_len K) (by rfl) B.len bt_len (pa_cons (pv 5) pa_nil)) pe_int (nomark _))))) (pss_one (ps_ret (pe_callTy (w_tuple K) (by rfl) B.tuple_ bt_tuple (pa_cons (pe_op op_cat (pe_op op_cat (pe_lst (pa_cons (pe_ix (w_ix K) (pv 1) pe_int (fun _ _ => rfl)) pa_nil)) (pe_slice (w_slL K) (pv 5) po_none (po_some (pe_un un_neg pe_int)))) (pe_lst (pa_cons (pe_callTy (w_tuple K) (by rfl) B.tuple_ bt_tuple (pa_cons (pe_op op_cat (pe_lst (pa_cons (pe_ix (w_ix K) (pv 1) pe_int (fun _ _ => rfl)) pa_nil)) (pe_slice (w_slL K) (pv 5) (po_some (pe_un un_neg pe_int)) po_none)) pa_nil)) pa_nil))) pa_nil)))) pss_nil)
  (pss_cons (ps_set (i := 6) sc_L_same_word.nd rfl (by first | exact Or.inl rfl | exact Or.inr rfl) (pe_call G_L_take (hr.mono (by omega)) rfl D_L_take.g D_L_take.fn.kp D_L_take.b .nil pass0 (pa_cons (pv 0) (pa_cons (pe_callB (w_len K) (by rfl) B.len bt_len (pa_cons (pv 5) pa_nil)) pa_nil))))
  (pss_cons (ps_asg (pe_call G_L_same_word (hr.mono (by omega)) rfl D_L_same_word.g D_L_same_word.fn.kp D_L_same_word.b .nil pass0 (pa_cons (pv 0) (pa_cons (pe_ix (w_ix K) (pv 5) (pv 6) (fun _ _ => rfl)) (pa_cons (pv 2) pa_nil)))) (pg_sub (pv 5) (pv 6) set_list))
  (pss_one (ps_ret (pe_callTy (w_tuple K) (by rfl) B.tuple_ bt_tuple (pa_cons (pe_op op_cat (pe_lst (pa_cons (pe_ix (w_ix K) (pv 1) pe_int (fun _ _ => rfl)) pa_nil)) (pv 5)) pa_nil)))))))))))))))), ?_⟩
    obtain ⟨x, d⟩ := y
    obtain ⟨hd, hl⟩ := hx
    dsimp only at hd hl ⊢
    have hd1 := isT_mono hd (show n + 1 ≤ n + 2 by omega)
    refine x_seq (x_asg (ev_callD (av_two (ev_var rfl) ev_int) (rc_take (EmbS.self x) (m := 8) (by decide) fun way hway => ?_)))
    refine x_seq (x_asg (ev_callD (av_two (ev_var rfl) (EvS.asD (ev_cb1 ev_str (rc_listStr (by decide))) (by rw [abc_signs]))) (rc_pick (EmbS.self x) ⟨by rw [abc_len]; decide, by rw [abc_len]; decide⟩ fun o ho => ?_)))
    have hoT : isT (n + 1) o = true := by
      obtain ⟨z, hz, rfl⟩ := List.mem_map.mp ho
      rw [isT_str, mem_abc.mp hz]
      rfl
    refine x_seq (x_ifD (tv_way (ev_var rfl)) (fun _ => ?_) fun q0 => x_next ?_)
    · exact x_ret (EvS.to (ev_tup (ds := [.str BAR, d, .tuple [.str AMP, d, o]]) (av_cons ev_str (av_two (ev_var rfl) (ev_tup (ds := [.str AMP, d, o]) (av_cons ev_str (av_two (ev_var rfl) (ev_var rfl))))))) ⟨_, rfl, two_T opB hd1 (two_T opA hd hoT)⟩)
    refine x_seq (x_ifD (tv_way (ev_var rfl)) (fun _ => ?_) fun q1 => x_next ?_)
    · exact x_ret (EvS.to (ev_tup (ds := [.str AMP, .tuple [.str BAR, o, d], d]) (av_cons ev_str (av_two (ev_tup (ds := [.str BAR, o, d]) (av_cons ev_str (av_two (ev_var rfl) (ev_var rfl)))) (ev_var rfl)))) ⟨_, rfl, two_T opA (two_T opB hoT hd) hd1⟩)
    refine x_seq (x_ifD (tv_way (ev_var rfl)) (fun _ => ?_) fun q2 => x_next ?_)
    · exact x_ret (EvS.to (ev_tup (ds := [.str AMP, d, d]) (av_cons ev_str (av_two (ev_var rfl) (ev_var rfl)))) ⟨_, rfl, two_T opA hd1 hd1⟩)
    obtain ⟨m, e, c⟩ := isT_cases hd
    cases e
    rcases c with ⟨z, rfl, hz⟩ | ⟨op, ps, rfl, h1, h2, h3⟩
    · refine x_seq (x_ifD (tv_B (ev_isStr (ev_var rfl))) (fun _ => ?_) fun q => by cases q)
      exact x_ret (EvS.to (ev_var rfl) ⟨_, rfl, isT_mono hd (by omega)⟩)
    refine x_seq (x_ifD (tv_B (ev_isStr (ev_var rfl))) (fun q => by cases q) fun _ => x_next ?_)
    have hps : ps.length ≤ 24 := by
      rw [lv_node] at hl
      exact Nat.le_trans (sum_pos fun p hp => lv_pos (h3 p hp)) hl
    have hnol : nols ps = true := nols_mem.mpr fun p hp => isT_nol (h3 p hp)
    have h3' : ∀ p ∈ ps, isT (n + 2) p = true := fun p hp => isT_mono (h3 p hp) (by omega)
    by_cases hw : (way : Int) = 3 ∨ (way : Int) = 4 ∨ ((way : Int) = 5 ∧ 2 < ps.length)
    · refine x_seq (x_asg (EvS.to (ev_cb1 (ev_tail (ev_var rfl)) rc_listT) ?_))
      refine x_seq (x_ifD (tv_way (ev_var rfl)) (fun _ => ?_) fun q3 => x_next ?_)
      · refine x_ret (ev_cb (PA := fun ss g' => ∃ es : List PyData, ss = [.dat (.list (.str op :: es))] ∧ es.Perm ps) (av_consS (P1 := fun s g' => ∃ es : List PyData, s = .dat (.list (.str op :: es)) ∧ es.Perm ps) (ev_op (ev_lst (ds := [.str op]) (av_one (ev_idx (ev_var rfl) at0))) fun t1 g1 ⟨a1, b1⟩ => EvS.imp (P := fun s _ => ∃ es, s = .dat (.list es) ∧ es.Perm ps) (ev_callD (av_two (ev_var rfl) (ev_var rfl)) (rc_spS (EmbS.self x) ps rfl ⟨hnol, by show ps.length ≤ 10000; omega⟩ fun s h => h)) fun t2 g2 ⟨es, a2, hp⟩ => ?_) fun t1 g1 ⟨es, a, hp⟩ => av_nil.imp fun ss g2 ⟨a2, _⟩ => ⟨es, by rw [a, a2], hp⟩) fun ss g1 ⟨es, a, hp⟩ => ?_)
        · subst a1; subst a2
          exact RvS.imp (rv_cat (by rw [hp.length_eq, List.length_cons, List.length_nil]; exact len100 (by omega))) fun s g ⟨a, b⟩ => ⟨es, a, hp⟩
        · subst a
          exact RcS.imp rc_tupL fun s g2 ⟨a, b⟩ => ⟨_, a, isT_mk h1 (by rw [hp.length_eq]; exact h2) fun p hpp => h3' p (hp.mem_iff.mp hpp)⟩
      refine x_seq (x_ifD (tv_way (ev_var rfl)) (fun _ => ?_) fun q4 => x_next ?_)
      · obtain ⟨a, b, r, rfl⟩ : ∃ a b r, ps = a :: b :: r := by
          match ps, h2 with
          | a :: b :: r, _ => exact ⟨a, b, r, rfl⟩
        refine x_ret (EvS.to (ev_cb1 (ev_opD (ev_lst (ds := [.str op, a]) (av_two (ev_idx (ev_var rfl) at0) (ev_idx (ev_var rfl) at1))) (ev_var rfl) (rv_cat (by simp only [List.length_cons, List.length_nil] at hps ⊢; exact len100 (by omega)))) rc_tupL) ⟨_, rfl, ?_⟩)
        refine isT_mk (o := op) (ps := a :: a :: b :: r) h1 (by simp) fun p hp => ?_
        rcases List.mem_cons.mp hp with rfl | hp
        · exact h3' p List.mem_cons_self
        · exact h3' p hp
      · have hw5 : (way : Int) = 5 ∧ 2 < ps.length := by
          rcases hw with h | h | h
          · exact absurd h (of_decide_eq_false q3)
          · exact absurd h (of_decide_eq_false q4)
          · exact h
        refine x_seq (x_ifD (b := true) (TvS.as (tv_and (tv_way (ev_var rfl)) fun _ => tv_test (ev_opD (ev_len (ev_var rfl) (n := ps.length) rfl) ev_int rv_gt)) (by rw [decide_eq_true hw5.1, decide_eq_true (by omega)]; rfl)) (fun _ => ?_) fun q => by cases q)
        have l1 : (ps.take (ps.length - 2)).length = ps.length - 2 := by rw [List.length_take]; omega
        have l2 : (ps.drop (ps.length - 2)).length = 2 := by rw [List.length_drop]; omega
        refine x_ret (EvS.to (ev_cb1 (ev_opD (ev_opD (ev_lst (ds := [.str op]) (av_one (ev_idx (ev_var rfl) at0))) (EvS.asD (ev_slL (ev_var rfl) ov_none (ov_some (ev_neg ev_int))) (by rw [cut_head2])) (rv_cat (by rw [l1]; exact len100 (by simp only [List.length_cons, List.length_nil]; omega)))) (ev_lst (ds := [.tuple (.str op :: ps.drop (ps.length - 2))]) (av_one (ev_cb1 (ev_opD (ev_lst (ds := [.str op]) (av_one (ev_idx (ev_var rfl) at0))) (EvS.asD (ev_slL (ev_var rfl) (ov_some (ev_neg ev_int)) ov_none) (by rw [cut_last2])) (rv_cat (by rw [l2]; exact len100 (by simp only [List.length_cons, List.length_nil]; omega)))) rc_tupL))) (rv_cat (by rw [List.length_append, l1]; exact len100 (by simp only [List.length_cons, List.length_nil]; omega)))) rc_tupL) ⟨_, rfl, ?_⟩)
        refine isT_mk (o := op) (ps := ps.take (ps.length - 2) ++ [.tuple (.str op :: ps.drop (ps.length - 2))]) h1 (by rw [List.length_append, l1]; simp; omega) fun p hp => ?_
        rcases List.mem_append.mp hp with hp | hp
        · exact h3' p (List.mem_of_mem_take hp)
        · rw [List.mem_singleton.mp hp]
          exact isT_mk h1 (by rw [l2]; decide) fun p hp => isT_mono (h3 p (List.mem_of_mem_drop hp)) (by omega)
    · refine x_ownF (fr_listT (ev_tail (ev_var rfl))) hnol fun p => ?_
      have n3 : ¬ (way : Int) = 3 := fun h => hw (.inl h)
      have n4 : ¬ (way : Int) = 4 := fun h => hw (.inr (.inl h))
      have n5 : ¬ ((way : Int) = 5 ∧ 2 < ps.length) := fun h => hw (.inr (.inr h))
      refine x_seq (x_ifD (b := false) (TvS.as (tv_way (ev_var rfl)) (decide_eq_false n3)) (fun q => by cases q) fun _ => x_next ?_)
      refine x_seq (x_ifD (b := false) (TvS.as (tv_way (ev_var rfl)) (decide_eq_false n4)) (fun q => by cases q) fun _ => x_next ?_)
      refine x_seq (x_ifD (b := false) (TvS.as (tv_and (a := decide ((way : Int) = 5)) (b := decide ((2 : Int) < ((ps.length : Nat) : Int))) (tv_way (ev_var rfl)) fun _ => tv_test (ev_opD (ev_cb1 (ev_var rfl) rc_ownLen) ev_int rv_gt)) (by
        by_cases h5 : (way : Int) = 5
        · have : ¬ 2 < ps.length := fun h => n5 ⟨h5, h⟩
          rw [decide_eq_false (p := (2 : Int) < ((ps.length : Nat) : Int)) (by omega), Bool.and_false]
        · rw [decide_eq_false h5, Bool.false_and])) (fun q => by cases q) fun _ => x_next ?_)
      refine x_seq (x_asg (ev_callD (av_two (ev_var rfl) (ev_cb1 (ev_var rfl) rc_ownLen)) (rc_take (EmbS.own x p) (m := ps.length) ⟨by omega, by omega⟩ fun at_ hat => ?_)))
      have hm := List.getElem_mem hat
      have hlv : lv ps[at_] ≤ 24 := by
        rw [lv_node] at hl
        exact Nat.le_trans (le_sum hm) hl
      refine x_seq (x_ownSet (n := at_) rfl (P1 := fun s g1 => (∃ d, s = .dat d ∧ isT (n + 2) d = true) ∧ g1.2 = ps) (ev_callD (av_cons (ev_var rfl) (av_two (ev_ownIx (ev_var rfl) (ev_var rfl) (List.getElem?_eq_getElem hat)) (ev_var rfl))) (rc_same (EmbS.own x p) ⟨h3 _ hm, hlv⟩ fun d h => ⟨⟨d, rfl, h⟩, rfl⟩)) fun s g1 ⟨⟨d, e, hdT⟩, hg⟩ => ⟨d, e, isT_nol hdT, by rw [hg]; exact hat, ev_var rfl, ?_⟩)
      obtain ⟨gu, gl⟩ := g1
      have hg : gl = ps := hg
      subst hg
      refine x_ret (EvS.imp (ev_cb1 (ev_opD (ev_lst (ds := [.str op]) (av_one (ev_idx (ev_var rfl) at0))) (ev_var rfl) (rv_catOwn (by show 1 + (gl.set at_ d).length ≤ sizeLine; rw [List.length_set]; exact len100 (by omega)))) rc_tupL) fun s g ⟨a, b⟩ => ⟨_, a, ?_⟩)
      refine isT_mk (o := op) (ps := gl.set at_ d) h1 (by rw [List.length_set]; exact h2) fun p hp => ?_
      rcases List.mem_or_eq_of_mem_set hp with hp | hp
      · exact h3' p hp
      · rw [hp]; exact hdT
end
end Z
/-! rewritten, odd, two words -/
namespace Z
open PySem L2
section
variable {K : PySem.W.Frag} {W : Wd} {δ : List Sl} {g : W.G}
theorem ev_dnew : EvD K W tDNewK δ g NOD := fun σ H i f Q q p hp => q (.ref p) (.dat NOD) g _ (Stp.same (Same.new hp)) (W.mono i (Same.new hp)) (.dct upd_same (fun n => by obtain ⟨o, e⟩ := W.trk i n; rw [hp] at e; cases e) .nil) ⟨rfl, rfl⟩
end
section
variable {P : Program} {w : World} {K : PySem.W.Frag} {mg : Str → Option Value} {base : Heap}
theorem isTerm_T {d : PyData} (h : isTerm d = true) : isT 5 d = true ∧ lv d ≤ 24 := isTerm_iff.mp h
theorem rc_fits {W : Wd} {g : W.G} {E : XK} {n : Nat} {d : PyData} (h : isT n d = true) (hn : n ≤ 20) : RcS K W (fun vs H Q => sp_L_fits K vs H Q E) [.dat d] g (is (.dat (.bool (isTerm d))) g) := rc_spP d rfl (isT_mono h hn) fun s e => ⟨e, rfl⟩
abbrev sp_L_rewritten (K : PySem.W.Frag) : Sp := spS K (β := PyData) (fun y => [.val (.ref y.1.src), .dat y.2, .dat (.int 3)]) (fun y => isTerm y.2 = true) (fun y s => ∃ d, s = .dat d ∧ isTerm d = true)
theorem ok_L_rewritten (Bt : Blt mg) (D_L_rewritten : Def K mg "_law_rewritten" s_L_rewritten p_L_rewritten) (D_L_same_word : Def K mg "_law_same_word" s_L_same_word p_L_same_word) (D_L_mixed : Def K mg "_law_mixed" s_L_mixed p_L_mixed) (D_L_pick : Def K mg "_law_pick" s_L_pick p_L_pick) (D_L_take : Def K mg "_law_take" s_L_take p_L_take)
    (D_L_fits : Def K mg "_law_fits" s_L_fits p_L_fits) (D_L_measure : Def K mg "_law_measure" s_L_measure p_L_measure) : FnOk P w K mg base CX0 23 D_L_rewritten.f D_L_rewritten.fd p_L_rewritten (sp_L_rewritten K) := by
  have B := Bt
  have G_L_same_word : FnOk P w K mg base CX0 9 D_L_same_word.f D_L_same_word.fd p_L_same_word (sp_L_same K 5) := ok_L_same_word Bt D_L_same_word D_L_mixed D_L_pick D_L_take 5
  have G_L_fits : FnOk P w K mg base CX0 22 D_L_fits.f D_L_fits.fd p_L_fits (sp_L_fits K) := ok_L_fits Bt D_L_fits D_L_measure
  refine fn_okG (α := SI × PyData) D_L_rewritten.fn sc_L_rewritten (fun _ => rfl) fun cdv A outer s H E hr y hx => ⟨_, (pss_cons (ps_for PassesOwn.never rfl (pi_range1 (by rfl) B.range (pa_cons (pv 2) pa_nil)) (pg_name (i := 3) sc_L_rewritten.nd rfl (by first | exact Or.inl rfl | exact Or.inr rfl)) (pss_cons (ps_set (i := 4) sc_L_rewritten.nd rfl (by first | exact Or.inl rfl | exact Or.inr rfl) (pe_call G_L_same_word (hr.mono (by omega)) rfl D_L_same_word.g D_L_same_word.fn.kp D_L_same_word.b .nil pass0 (pa_cons (pv 0) (pa_cons (pv 1) (pa_cons pe_dnewK pa_nil)))))
  (pss_one (ps_if (pt_val (pe_call G_L_fits (hr.mono (by omega)) rfl D_L_fits.g D_L_fits.fn.kp D_L_fits.b .nil pass0 (pa_cons (pv 4) pa_nil))) (pss_one (ps_set (i := 1) sc_L_rewritten.nd rfl (by first | exact Or.inl rfl | exact Or.inr rfl) (pv 4))) pss_nil))))
  (pss_one (ps_ret (pv 1)))), ?_⟩
  obtain ⟨x, d⟩ := y
  dsimp only at hx ⊢
  refine x_seqM (fun δ' g' => ∃ d a b, isTerm d = true ∧ δ' = [.val (.ref x.src), .dat d, .dat (.int 3), a, b]) (x_forR (n := 3) (av_one (ev_var rfl)) (by decide) (fun i δ' g' => ∃ d a b, isTerm d = true ∧ δ' = [.val (.ref x.src), .dat d, .dat (.int 3), a, b]) ⟨d, .no, .no, hx, rfl⟩ (fun i δ' g' hi hJ => ?_) fun δ' g' hJ => hJ) fun δ' g' h => ?_
  · obtain ⟨d, a, b, hd, rfl⟩ := hJ
    refine gs_name (x_seq (x_asg (ev_callD (av_cons (ev_var rfl) (av_two (ev_var rfl) ev_dnew)) (rc_same (EmbS.self x) (isTerm_T hd) fun e he => ?_))))
    refine x_ifD (tv_B (ev_callD (av_one (ev_var rfl)) (rc_fits he (by decide)))) (fun q => x_asg (EvS.to (ev_var rfl) ⟨e, _, _, q, rfl⟩)) fun _ => x_next ⟨d, _, _, hd, rfl⟩
  · obtain ⟨d, a, b, hd, rfl⟩ := h
    exact x_ret (EvS.to (ev_var rfl) ⟨d, rfl, hd⟩)
/-! ### odd values -/
def odd1 : List PyData := [.none, .int 3, .str "", .str "i", .str "A", .str "ab", .tuple [], .tuple [.str "&"], .tuple [.str "&", .str "a"], .tuple [.str "|", .str "a", .str "z"], .tuple [.str "and", .str "a", .str "b"], .list [.str "&", .str "a", .str "b"]]
def odd2 (d : PyData) : List PyData := [.tuple [.str "&", .str "a", .none], .tuple [.str "&", d, .tuple [.str "a", .str "b"]], .tuple [d], .tuple [.str "&", .tuple [.str "|", .str "b"], d], .tuple [.bool true, .str "a", .str "b"]]
def odd3 (d : PyData) : List PyData := [.tuple [.str "|", .list [.str "a"], d], .tuple [.str "&", d, .str ""], .tuple [.str "", d, d], .tuple [.tuple [.str "&", .str "a", .str "b"], .str "a", .str "b"], nestD 10]
theorem isT_nodeF {n : Nat} {o : Str} {ps : List PyData} {p : PyData} (hp : p ∈ ps) (h : isT n p = false) : isT (n + 1) (.tuple (.str o :: ps)) = false := by
  rw [isT_node]
  have : ps.all (isT n) = false := by
    rw [Bool.eq_false_iff]
    intro q
    rw [List.all_eq_true.mp q p hp] at h
    cases h
  rw [this, Bool.and_false]
theorem isT_ff {n m : Nat} {d : PyData} (h : isT n d = false) (hm : m ≤ n) : isT m d = false := by
  cases q : isT m d with
  | false => rfl
  | true => rw [isT_mono q hm] at h; cases h
theorem ab_F (n : Nat) : isT n (.tuple [.str "a", .str "b"]) = false := by
  cases n with
  | zero => rfl
  | succ n =>
    rw [isT_node]
    rfl
theorem bb_F (n : Nat) : isT n (.tuple [.str "|", .str "b"]) = false := by
  cases n with
  | zero => rfl
  | succ n =>
    rw [isT_node]
    simp
theorem odd_T {d e : PyData} (h : isT 5 d = true) (he : e ∈ odd1 ++ odd2 d ++ odd3 d) : isT 5 e = false := by
  rcases List.mem_append.mp he with he | he
  · rcases List.mem_append.mp he with he | he
    · simp only [odd1, List.mem_cons, List.not_mem_nil, or_false] at he
      rcases he with rfl | rfl | rfl | rfl | rfl | rfl | rfl | rfl | rfl | rfl | rfl | rfl <;> decide +kernel
    · simp only [odd2, List.mem_cons, List.not_mem_nil, or_false] at he
      rcases he with rfl | rfl | rfl | rfl | rfl
      · decide +kernel
      · exact isT_nodeF (p := .tuple [.str "a", .str "b"]) (by simp) (ab_F 4)
      · cases d with
        | str z => rw [isT_node]; simp
        | _ => simp [isT]
      · exact isT_nodeF (p := .tuple [.str "|", .str "b"]) (by simp) (bb_F 4)
      · decide +kernel
  · simp only [odd3, List.mem_cons, List.not_mem_nil, or_false] at he
    rcases he with rfl | rfl | rfl | rfl | rfl
    · exact isT_nodeF (p := .list [.str "a"]) (by simp) (by simp [isT])
    · exact isT_nodeF (p := .str "") (by simp) (by decide +kernel)
    · rw [isT_node]
      have : isOp "" = false := by decide +kernel
      rw [this, Bool.false_and, Bool.false_and]
    · decide +kernel
    · decide +kernel
theorem shorts_tup {ds : List PyData} (h : ∀ d ∈ ds, shorts d = true) : shorts (.tuple ds) = true := shortsA_mem.mpr h
theorem odd_S {d e : PyData} (h : shorts d = true) (he : e ∈ odd1 ++ odd2 d ++ odd3 d) : shorts e = true := by
  rcases List.mem_append.mp he with he | he
  · rcases List.mem_append.mp he with he | he
    · simp only [odd1, List.mem_cons, List.not_mem_nil, or_false] at he
      rcases he with rfl | rfl | rfl | rfl | rfl | rfl | rfl | rfl | rfl | rfl | rfl | rfl <;> decide +kernel
    · simp only [odd2, List.mem_cons, List.not_mem_nil, or_false] at he
      rcases he with rfl | rfl | rfl | rfl | rfl
      · decide +kernel
      · refine shorts_tup fun p hp => ?_
        simp only [List.mem_cons, List.not_mem_nil, or_false] at hp
        rcases hp with rfl | rfl | rfl
        · decide +kernel
        · exact h
        · decide +kernel
      · refine shorts_tup fun p hp => ?_
        rw [List.mem_singleton.mp hp]
        exact h
      · refine shorts_tup fun p hp => ?_
        simp only [List.mem_cons, List.not_mem_nil, or_false] at hp
        rcases hp with rfl | rfl | rfl
        · decide +kernel
        · decide +kernel
        · exact h
      · decide +kernel
  · simp only [odd3, List.mem_cons, List.not_mem_nil, or_false] at he
    rcases he with rfl | rfl | rfl | rfl | rfl
    · refine shorts_tup fun p hp => ?_
      simp only [List.mem_cons, List.not_mem_nil, or_false] at hp
      rcases hp with rfl | rfl | rfl
      · decide +kernel
      · decide +kernel
      · exact h
    · refine shorts_tup fun p hp => ?_
      simp only [List.mem_cons, List.not_mem_nil, or_false] at hp
      rcases hp with rfl | rfl | rfl
      · decide +kernel
      · exact h
      · decide +kernel
    · refine shorts_tup fun p hp => ?_
      simp only [List.mem_cons, List.not_mem_nil, or_false] at hp
      rcases hp with rfl | rfl | rfl
      · decide +kernel
      · exact h
      · exact h
    · decide +kernel
    · decide +kernel
abbrev sp_L_odd (K : PySem.W.Frag) : Sp := spS K (β := PyData) (fun y => [.val (.ref y.1.src), .dat y.2]) (fun y => isTerm y.2 = true) (fun y s => ∃ d, s = .dat d ∧ isTerm d = false ∧ shorts d = true)
theorem ok_L_odd (Bt : Blt mg) (D_L_odd : Def K mg "_law_odd" s_L_odd p_L_odd) (D_L_nest : Def K mg "_law_nest" s_L_nest p_L_nest) (D_L_pick : Def K mg "_law_pick" s_L_pick p_L_pick) (D_L_take : Def K mg "_law_take" s_L_take p_L_take) : FnOk P w K mg base CX0 3 D_L_odd.f D_L_odd.fd p_L_odd (sp_L_odd K) := by
  have B := Bt
  have G_L_pick : FnOk P w K mg base CX0 2 D_L_pick.f D_L_pick.fd p_L_pick (sp_L_pick K) := ok_L_pick Bt D_L_pick D_L_take
  have G_L_nest : FnOk P w K mg base CX0 1 D_L_nest.f D_L_nest.fd p_L_nest (sp_L_nest K) := ok_L_nest Bt D_L_nest
  refine fn_okG (α := SI × PyData) D_L_odd.fn sc_L_odd (fun _ => rfl) fun cdv A outer s H E hr y hx => ⟨_, (pss_cons (ps_set (i := 2) sc_L_odd.nd rfl (by first | exact Or.inl rfl | exact Or.inr rfl) (pe_lst (pa_cons pe_non (pa_cons pe_int (pa_cons pe_str (pa_cons pe_str (pa_cons pe_str (pa_cons pe_str (pa_cons (pe_tup pa_nil) (pa_cons (pe_tup (pa_cons pe_str pa_nil)) (pa_cons (pe_tup (pa_cons pe_str (pa_cons pe_str pa_nil))) (pa_cons (pe_tup (pa_cons pe_str (pa_cons pe_str (pa_cons pe_str pa_nil)))) (pa_cons (pe_tup (pa_cons pe_str (pa_cons pe_str (pa_cons pe_str pa_nil)))) (pa_cons (pe_lst (pa_cons pe_str (pa_cons pe_str (pa_cons pe_str pa_nil)))) pa_nil))))))))))))))
  (pss_cons (ps_set (i := 2) sc_L_odd.nd rfl (by first | exact Or.inl rfl | exact Or.inr rfl) (pe_op op_cat (pv 2) (pe_lst (pa_cons (pe_tup (pa_cons pe_str (pa_cons pe_str (pa_cons pe_non pa_nil)))) (pa_cons (pe_tup (pa_cons pe_str (pa_cons (pv 1) (pa_cons (pe_tup (pa_cons pe_str (pa_cons pe_str pa_nil))) pa_nil)))) (pa_cons (pe_tup (pa_cons (pv 1) pa_nil)) (pa_cons (pe_tup (pa_cons pe_str (pa_cons (pe_tup (pa_cons pe_str (pa_cons pe_str pa_nil))) (pa_cons (pv 1) pa_nil)))) (pa_cons (pe_tup (pa_cons pe_bl (pa_cons pe_str (pa_cons pe_str pa_nil)))) pa_nil))))))))
  (pss_cons (ps_set (i := 2) sc_L_odd.nd rfl (by first | exact Or.inl rfl | exact Or.inr rfl) (pe_op op_cat (pv 2) (pe_lst (pa_cons (pe_tup (pa_cons pe_str (pa_cons (pe_lst (pa_cons pe_str pa_nil)) (pa_cons (pv 1) pa_nil)))) (pa_cons (pe_tup (pa_cons pe_str (pa_cons (pv 1) (pa_cons pe_str pa_nil)))) (pa_cons (pe_tup (pa_cons pe_str (pa_cons (pv 1) (pa_cons (pv 1) pa_nil)))) (pa_cons (pe_tup (pa_cons (pe_tup (pa_cons pe_str (pa_cons pe_str (pa_cons pe_str pa_nil)))) (pa_cons pe_str (pa_cons pe_str pa_nil)))) (pa_cons (pe_call G_L_nest (hr.mono (by omega)) rfl D_L_nest.g D_L_nest.fn.kp D_L_nest.b .nil pass0 (pa_cons pe_int pa_nil)) pa_nil))))))))
  (pss_one (ps_ret (pe_call G_L_pick (hr.mono (by omega)) rfl D_L_pick.g D_L_pick.fn.kp D_L_pick.b .nil pass0 (pa_cons (pv 0) (pa_cons (pv 2) pa_nil)))))))), ?_⟩
  obtain ⟨x, d⟩ := y
  dsimp only at hx ⊢
  have hd := isTerm_T hx
  have c3 : ∀ {δ : List Sl} {a b c : PyData} {ta tb tc : TE}, EvD K (WS x) ta δ () a → EvD K (WS x) tb δ () b → EvD K (WS x) tc δ () c → EvD K (WS x) (tTup (tCons ta (tCons tb (tCons tc tNil)))) δ () (.tuple [a, b, c]) := fun h1 h2 h3 => ev_tup (ds := [_, _, _]) (av_cons h1 (av_two h2 h3))
  have c2 : ∀ {δ : List Sl} {a b : PyData} {ta tb : TE}, EvD K (WS x) ta δ () a → EvD K (WS x) tb δ () b → EvD K (WS x) (tTup (tCons ta (tCons tb tNil))) δ () (.tuple [a, b]) := fun h1 h2 => ev_tup (ds := [_, _]) (av_two h1 h2)
  have c1 : ∀ {δ : List Sl} {a : PyData} {ta : TE}, EvD K (WS x) ta δ () a → EvD K (WS x) (tTup (tCons ta tNil)) δ () (.tuple [a]) := fun h1 => ev_tup (ds := [_]) (av_one h1)
  refine x_seq (x_asg (EvS.to (ev_lst (ds := odd1) ?_ (by show 12 ≤ sizeLine; decide)) ?_))
  · unfold odd1
    refine av_cons ev_non ?_
    refine av_cons ev_int ?_
    refine av_cons ev_str ?_
    refine av_cons ev_str ?_
    refine av_cons ev_str ?_
    refine av_cons ev_str ?_
    refine av_cons (ev_tup (ds := []) av_nil) ?_
    refine av_cons (c1 ev_str) ?_
    refine av_cons (c2 ev_str ev_str) ?_
    refine av_cons (c3 ev_str ev_str ev_str) ?_
    refine av_cons (c3 ev_str ev_str ev_str) ?_
    refine av_cons (ev_lst (ds := [.str "&", .str "a", .str "b"]) (av_cons ev_str (av_two ev_str ev_str))) ?_
    exact av_nil
  refine x_seq (x_asg (EvS.to (ev_opD (s1 := .dat (.list odd1)) (s2 := .dat (.list (odd2 d))) (ev_var rfl) (ev_lst (ds := odd2 d) ?_ (by show 5 ≤ sizeLine; decide)) (rv_cat (by show 12 + 5 ≤ sizeLine; decide))) ?_))
  · unfold odd2
    refine av_cons (c3 ev_str ev_str ev_non) ?_
    refine av_cons (c3 ev_str (ev_var rfl) (c2 ev_str ev_str)) ?_
    refine av_cons (c1 (ev_var rfl)) ?_
    refine av_cons (c3 ev_str (c2 ev_str ev_str) (ev_var rfl)) ?_
    refine av_cons (c3 ev_bl ev_str ev_str) ?_
    exact av_nil
  refine x_seq (x_asg (EvS.to (ev_opD (s1 := .dat (.list (odd1 ++ odd2 d))) (s2 := .dat (.list (odd3 d))) (ev_var rfl) (ev_lst (ds := odd3 d) ?_ (by show 5 ≤ sizeLine; decide)) (rv_cat (by show 12 + 5 + 5 ≤ sizeLine; decide))) ?_))
  · unfold odd3
    refine av_cons (c3 ev_str (ev_lst (ds := [.str "a"]) (av_one ev_str)) (ev_var rfl)) ?_
    refine av_cons (c3 ev_str (ev_var rfl) ev_str) ?_
    refine av_cons (c3 ev_str (ev_var rfl) (ev_var rfl)) ?_
    refine av_cons (c3 (c3 ev_str ev_str ev_str) ev_str ev_str) ?_
    refine av_cons (ev_callD (av_one ev_int) (rc_spP 10 rfl (show 10 ≤ 1000 by decide) fun s e => ⟨e, rfl⟩)) ?_
    exact av_nil
  exact x_ret (ev_callD (av_two (ev_var rfl) (ev_var rfl)) (rc_pick (EmbS.self x) ⟨by show 0 < 12 + 5 + 5; decide, by show 12 + 5 + 5 < 1000000; decide⟩ fun e he => ⟨e, rfl, by unfold isTerm; rw [odd_T hd.1 he]; rfl, odd_S (isT_shorts hd.1) he⟩))
end
end Z
/-! two words -/
namespace Z
open PySem L2
section
variable {K : PySem.W.Frag} {x : SI} {δ : List Sl} {P : Sl → (WS x).G → Prop} {E : XK} {td tp : TE} {sg : List PyData} {n : Nat}
def SI.room (x : SI) (p : Addr) (h1 : p ≠ x.src) (h2 : p ≠ x.cells) : RI := ⟨x.own p, p, .inr rfl, h1, h2⟩
theorem ev_callTerm (h0 : δ[0]? = some (.val (.ref x.src))) (h1 : δ[1]? = some (.dat (.list sg))) (hs : 0 < sg.length ∧ sg.length ≤ 8 ∧ ∀ d ∈ sg, isLet d = true)
    (hd : EvS K (WS x) td δ () fun s _ => ∃ k : Nat, s = .dat (.int (k : Nat)) ∧ k < n) (hp : EvS K (WS x) tp δ () fun s _ => ∃ r : Nat, s = .dat (.int (r : Nat)) ∧ r ≤ 8)
    (k : ∀ d m, m < n → isT (max m 1) d = true → lv d ≤ 9 → P (.dat d) ()) : EvS K (WS x) (tCall (sp_L_term K n) [] E (tCons (tVar 0) (tCons (tVar 1) (tCons td (tCons (tLst (tCons tp tNil)) tNil))))) δ () P := fun σ H i f Q q => by
  obtain ⟨v0, e0, r0⟩ := f.at_ 0 _ h0 (by intro z; cases z)
  obtain ⟨v1, e1, r1⟩ := f.at_ 1 _ h1 (by intro z; cases z)
  cases (show v0 = V.ref x.src from r0)
  refine ⟨_, e0, _, e1, hd σ H i f _ fun vd sd _ H1 s1 i1 rd ⟨m, ed, hm⟩ => hp σ H1 i1 (f.stp i s1) _ fun vp sp _ H2 s2 i2 rp ⟨R, ep, hR⟩ => ?_⟩
  subst ed; subst ep
  cases (show Da K _ H1 vd (.int m) from rd)
  cases (show Da K _ H2 vp (.int R) from rp)
  refine ⟨by show 1 ≤ sizeLine; decide, fun p hpn => ?_⟩
  obtain ⟨g4, j⟩ := i2
  have n1 : p ≠ x.src := fun z => by subst z; rw [j.2.2.1] at hpn; cases hpn
  have n2 : p ≠ x.cells := fun z => by subst z; rw [j.2.1] at hpn; cases hpn
  have hsub : ∀ a, (x.N a ∨ a = p) → (∃ o, H2 a = some o) → x.N a := fun a n ⟨o, q⟩ => n.elim id fun e => by subst e; rw [hpn] at q; cases q
  have r2 : Da K x.N H2 v1 (.list sg) := Da.stp (W := WS x) (g := ()) i1 s2 (Da.stp (W := WS x) (g := ()) i s1 r1)
  have r3 : Da K (fun a => x.N a ∨ a = p) (upd H2 p (.lst [.int R])) v1 (.list sg) := Da.keep (fun a o _ q => Same.new hpn a o q) (fun a o q _ => Same.new hpn a o q) (fun _ q _ => q) _ _ (Da.keep (N' := fun a => x.N a ∨ a = p) (fun _ _ _ q => q) (fun _ _ q _ => q) hsub _ _ r2)
  have iR : (WR (x.room p n1 n2)).I R (upd H2 p (.lst [.int R])) := ⟨⟨g4, fun a h => ?_, ?_, ?_, j.2.2.2⟩, upd_same⟩
  · refine ⟨(x.room p n1 n2, sg, m, R), iR, .cons rfl (.cons r3 (.cons (Da.int m) (.cons rfl .nil))), ⟨hm, hs, by show R ≤ 1000; omega⟩, fun v s g' H3 e3 i3 rv ⟨d, es, hT, hl⟩ => ?_⟩
    subst es
    have st : Stp (WS x) H H3 := (s1.trans s2).trans ⟨fun a o ma qa => e3.keep a o (fun z => by
        rcases z with z | z
        · exact ma z
        · have : a = p := z
          subst this
          rw [hpn] at qa
          cases qa) (Same.new hpn a o qa), fun a o qa => e3.there a o (Same.new hpn a o qa)⟩
    obtain ⟨⟨g5, j5⟩, _⟩ := i3
    refine q v (.dat d) () H3 st ⟨g5, fun a n => j5.1 a (.inl n), j5.2⟩ (RelS.sub (s := .dat d) (fun a n _ => .inl n) rv) (k d m hm hT ?_)
    have hl' : lv d + rmN g' ≤ R + 1 := hl
    omega
  · rcases h with h | h
    · obtain ⟨o, e⟩ := j.1 a h
      exact ⟨o, Same.new hpn a o e⟩
    · rw [h]; exact ⟨_, upd_same⟩
  · exact Same.new hpn _ _ j.2.1
  · exact Same.new hpn _ _ j.2.2.1
end
section
variable {P : Program} {w : World} {K : PySem.W.Frag} {mg : Str → Option Value} {base : Heap}
abbrev sp_L_two (K : PySem.W.Frag) : Sp := spS K (β := Unit) (fun y => [.val (.ref y.1.src)]) (fun y => True) (fun y s => ∃ a b, s = .dat (.tuple [a, b]) ∧ isTerm a = true ∧ isTerm b = true)
theorem ok_L_two (Bt : Blt mg) (D_L_two_words : Def K mg "_law_two_words" s_L_two_words p_L_two_words) (D_L_signs : Def K mg "_law_signs" s_L_signs p_L_signs) (D_L_term : Def K mg "_law_term" s_L_term p_L_term) (D_L_rewritten : Def K mg "_law_rewritten" s_L_rewritten p_L_rewritten) (D_L_same_word : Def K mg "_law_same_word" s_L_same_word p_L_same_word) (D_L_mixed : Def K mg "_law_mixed" s_L_mixed p_L_mixed) (D_L_pick : Def K mg "_law_pick" s_L_pick p_L_pick) (D_L_take : Def K mg "_law_take" s_L_take p_L_take)
    (D_L_fits : Def K mg "_law_fits" s_L_fits p_L_fits) (D_L_measure : Def K mg "_law_measure" s_L_measure p_L_measure) : FnOk P w K mg base CX0 24 D_L_two_words.f D_L_two_words.fd p_L_two_words (sp_L_two K) := by
  have B := Bt
  have G_L_take : FnOk P w K mg base CX0 1 D_L_take.f D_L_take.fd p_L_take (sp_L_take K) := ok_L_take Bt D_L_take
  have G_L_pick : FnOk P w K mg base CX0 2 D_L_pick.f D_L_pick.fd p_L_pick (sp_L_pick K) := ok_L_pick Bt D_L_pick D_L_take
  have G_L_signs : FnOk P w K mg base CX0 3 D_L_signs.f D_L_signs.fd p_L_signs (sp_L_signsOf K) := ok_L_signs Bt D_L_signs D_L_mixed D_L_take
  have G_L_term : FnOk P w K mg base CX0 8 D_L_term.f D_L_term.fd p_L_term (sp_L_term K 5) := ok_L_term Bt D_L_term D_L_pick D_L_take 5
  have G_L_rewritten : FnOk P w K mg base CX0 23 D_L_rewritten.f D_L_rewritten.fd p_L_rewritten (sp_L_rewritten K) := ok_L_rewritten Bt D_L_rewritten D_L_same_word D_L_mixed D_L_pick D_L_take D_L_fits D_L_measure
  have G_L_fits : FnOk P w K mg base CX0 22 D_L_fits.f D_L_fits.fd p_L_fits (sp_L_fits K) := ok_L_fits Bt D_L_fits D_L_measure
  refine fn_okG (α := SI × Unit) D_L_two_words.fn sc_L_two_words (fun _ => rfl) fun cdv A outer s H E hr y hx => ⟨_, (pss_cons (ps_set (i := 1) sc_L_two_words.nd rfl (by first | exact Or.inl rfl | exact Or.inr rfl) (pe_call G_L_signs (hr.mono (by omega)) rfl D_L_signs.g D_L_signs.fn.kp D_L_signs.b .nil pass0 (pa_cons (pv 0) (pa_cons pe_int pa_nil))))
  (pss_cons (ps_set (i := 2) sc_L_two_words.nd rfl (by first | exact Or.inl rfl | exact Or.inr rfl) (pe_call G_L_term (hr.mono (by omega)) rfl D_L_term.g D_L_term.fn.kp D_L_term.b .nil pass0 (pa_cons (pv 0) (pa_cons (pv 1) (pa_cons (pe_op op_add pe_int (pe_call G_L_take (hr.mono (by omega)) rfl D_L_take.g D_L_take.fn.kp D_L_take.b .nil pass0 (pa_cons (pv 0) (pa_cons pe_int pa_nil)))) (pa_cons (pe_lst (pa_cons (pe_call G_L_pick (hr.mono (by omega)) rfl D_L_pick.g D_L_pick.fn.kp D_L_pick.b .nil pass0 (pa_cons (pv 0) (pa_cons (pe_lst (pa_cons pe_int (pa_cons pe_int (pa_cons pe_int pa_nil)))) pa_nil))) pa_nil)) pa_nil))))))
  (pss_cons (ps_set (i := 3) sc_L_two_words.nd rfl (by first | exact Or.inl rfl | exact Or.inr rfl) (pe_call G_L_term (hr.mono (by omega)) rfl D_L_term.g D_L_term.fn.kp D_L_term.b .nil pass0 (pa_cons (pv 0) (pa_cons (pv 1) (pa_cons (pe_op op_add pe_int (pe_call G_L_take (hr.mono (by omega)) rfl D_L_take.g D_L_take.fn.kp D_L_take.b .nil pass0 (pa_cons (pv 0) (pa_cons pe_int pa_nil)))) (pa_cons (pe_lst (pa_cons (pe_call G_L_pick (hr.mono (by omega)) rfl D_L_pick.g D_L_pick.fn.kp D_L_pick.b .nil pass0 (pa_cons (pv 0) (pa_cons (pe_lst (pa_cons pe_int (pa_cons pe_int (pa_cons pe_int pa_nil)))) pa_nil))) pa_nil)) pa_nil))))))
  (pss_cons (ps_set (i := 4) sc_L_two_words.nd rfl (by first | exact Or.inl rfl | exact Or.inr rfl) (pe_call G_L_take (hr.mono (by omega)) rfl D_L_take.g D_L_take.fn.kp D_L_take.b .nil pass0 (pa_cons (pv 0) (pa_cons pe_int pa_nil))))
  (pss_cons (ps_if (pt_cmpR (w_eqD K hr.units) (pv 4) pe_int (nomark _)) (pss_one (ps_set (i := 3) sc_L_two_words.nd rfl (by first | exact Or.inl rfl | exact Or.inr rfl) (pe_call G_L_rewritten (hr.mono (by omega)) rfl D_L_rewritten.g D_L_rewritten.fn.kp D_L_rewritten.b .nil pass0 (pa_cons (pv 0) (pa_cons (pv 2) (pa_cons pe_int pa_nil)))))) pss_nil)
  (pss_cons (ps_if (PW.pt (pw_and (pt_cmpR (w_eqD K hr.units) (pv 4) pe_int (nomark _)) (pw_and1 (pt_val (pe_call G_L_fits (hr.mono (by omega)) rfl D_L_fits.g D_L_fits.fn.kp D_L_fits.b .nil pass0 (pa_cons (pe_tup (pa_cons pe_str (pa_cons (pv 3) (pa_cons (pv 2) pa_nil)))) pa_nil)))))) (pss_one (ps_set (i := 3) sc_L_two_words.nd rfl (by first | exact Or.inl rfl | exact Or.inr rfl) (pe_tup (pa_cons pe_str (pa_cons (pv 3) (pa_cons (pv 2) pa_nil)))))) pss_nil)
  (pss_cons (ps_if (PW.pt (pw_and (pt_cmpR (w_eqD K hr.units) (pv 4) pe_int (nomark _)) (pw_and1 (pt_val (pe_call G_L_fits (hr.mono (by omega)) rfl D_L_fits.g D_L_fits.fn.kp D_L_fits.b .nil pass0 (pa_cons (pe_tup (pa_cons pe_str (pa_cons (pv 2) (pa_cons (pv 3) pa_nil)))) pa_nil)))))) (pss_one (ps_set (i := 2) sc_L_two_words.nd rfl (by first | exact Or.inl rfl | exact Or.inr rfl) (pe_tup (pa_cons pe_str (pa_cons (pv 2) (pa_cons (pv 3) pa_nil)))))) pss_nil)
  (pss_one (ps_ret (pe_tup (pa_cons (pv 2) (pa_cons (pv 3) pa_nil)))))))))))), ?_⟩
  obtain ⟨x, _⟩ := y
  dsimp only
  refine x_seq (x_asg (ev_callD (av_two (ev_var rfl) ev_int) (rc_spS (EmbS.self x) 4 rfl (show 0 < 4 ∧ 4 < 8 by decide) fun s ⟨sg, es, s1, s2, s3⟩ => ?_)))
  subst es
  have hd : ∀ (δ : List Sl), δ[0]? = some (.val (.ref x.src)) → EvS K (WS x) (tOp (rI0 fun i j => .int (i + j)) (tC (.int 1)) (tCall (sp_L_take K) [] E0 (tCons (tVar 0) (tCons (tC (.int 4)) tNil)))) δ () fun s _ => ∃ k : Nat, s = .dat (.int (k : Nat)) ∧ k < 5 := fun δ h => ev_op ev_int fun t1 g1 ⟨a1, b1⟩ => EvS.imp (P := fun s _ => ∃ d : Nat, d < 4 ∧ s = .dat (.int (d : Nat))) (ev_callD (av_two (ev_var h) ev_int) (rc_take (EmbS.self x) (m := 4) (by decide) fun d hd => ⟨d, hd, rfl⟩)) fun t2 g2 ⟨d, hd, e⟩ => by
    subst a1; subst e
    exact RvS.imp rv_add fun s g ⟨a, b⟩ => ⟨1 + d, by rw [a]; simp, by omega⟩
  have hp : ∀ (δ : List Sl), δ[0]? = some (.val (.ref x.src)) → EvS K (WS x) (tCall (sp_L_pick K) [] E0 (tCons (tVar 0) (tCons (tLst (tCons (tC (.int 2)) (tCons (tC (.int 4)) (tCons (tC (.int 8)) tNil)))) tNil))) δ () fun s _ => ∃ r : Nat, s = .dat (.int (r : Nat)) ∧ r ≤ 8 := fun δ h => ev_callD (av_two (ev_var h) (ev_lst (ds := [.int 2, .int 4, .int 8]) (av_cons ev_int (av_two ev_int ev_int)))) (rc_pick (EmbS.self x) ⟨by decide, by decide⟩ fun d hd => by
    simp only [List.mem_cons, List.not_mem_nil, or_false] at hd
    rcases hd with rfl | rfl | rfl
    · exact ⟨2, rfl, by decide⟩
    · exact ⟨4, rfl, by decide⟩
    · exact ⟨8, rfl, by decide⟩)
  have ok : ∀ d m, m < 5 → isT (max m 1) d = true → lv d ≤ 9 → isTerm d = true := fun d m h1 h2 h3 => isTerm_iff.mpr ⟨isT_mono h2 (by omega), by omega⟩
  refine x_seq (x_asg (ev_callTerm rfl rfl ⟨s1, s2, s3⟩ (hd _ rfl) (hp _ rfl) fun one m1 h1 h2 h3 => ?_))
  have t1 := ok one m1 h1 h2 h3
  refine x_seq (x_asg (ev_callTerm rfl rfl ⟨s1, s2, s3⟩ (hd _ rfl) (hp _ rfl) fun two m2 h1' h2' h3' => ?_))
  have t2 := ok two m2 h1' h2' h3'
  clear h1 h2 h3 h1' h2' h3' hd hp ok
  refine x_seq (x_asg (ev_callD (av_two (ev_var rfl) ev_int) (rc_take (EmbS.self x) (m := 5) (by decide) fun way hway => ?_)))
  refine x_seqM (fun δ' g' => ∃ two, isTerm two = true ∧ δ' = [.val (.ref x.src), .dat (.list sg), .dat one, .dat two, .dat (.int (way : Nat))]) (x_ifD (tv_way (ev_var rfl)) (fun _ => x_asg (ev_callD (av_cons (ev_var rfl) (av_two (ev_var rfl) ev_int)) (rc_spS (EmbS.self x) one rfl t1 fun s ⟨d, e, hd⟩ => by subst e; exact ⟨d, hd, rfl⟩))) fun _ => x_next ⟨two, t2, rfl⟩) fun δ' g' h => ?_
  clear t2
  obtain ⟨two, t2, rfl⟩ := h
  refine x_seqM (fun δ' g' => ∃ two, isTerm two = true ∧ δ' = [.val (.ref x.src), .dat (.list sg), .dat one, .dat two, .dat (.int (way : Nat))]) (x_ifD (b := decide ((way : Int) = 1) && isTerm (.tuple [.str BAR, two, one])) (tv_and (tv_way (ev_var rfl)) fun _ => tv_B (ev_callD (av_one (ev_tup (ds := [.str BAR, two, one]) (av_cons ev_str (av_two (ev_var rfl) (ev_var rfl))))) (rc_fits (two_T opB (isTerm_T t2).1 (isTerm_T t1).1) (by decide)))) (fun q => x_asg (EvS.to (ev_tup (ds := [.str BAR, two, one]) (av_cons ev_str (av_two (ev_var rfl) (ev_var rfl)))) ⟨_, (Bool.and_eq_true_iff.mp q).2, rfl⟩)) fun _ => x_next ⟨two, t2, rfl⟩) fun δ' g' h => ?_
  clear t2
  obtain ⟨two, t2, rfl⟩ := h
  refine x_seqM (fun δ' g' => ∃ one, isTerm one = true ∧ δ' = [.val (.ref x.src), .dat (.list sg), .dat one, .dat two, .dat (.int (way : Nat))]) (x_ifD (b := decide ((way : Int) = 2) && isTerm (.tuple [.str AMP, one, two])) (tv_and (tv_way (ev_var rfl)) fun _ => tv_B (ev_callD (av_one (ev_tup (ds := [.str AMP, one, two]) (av_cons ev_str (av_two (ev_var rfl) (ev_var rfl))))) (rc_fits (two_T opA (isTerm_T t1).1 (isTerm_T t2).1) (by decide)))) (fun q => x_asg (EvS.to (ev_tup (ds := [.str AMP, one, two]) (av_cons ev_str (av_two (ev_var rfl) (ev_var rfl)))) ⟨_, (Bool.and_eq_true_iff.mp q).2, rfl⟩)) fun _ => x_next ⟨one, t1, rfl⟩) fun δ' g' h => ?_
  clear t1
  obtain ⟨one, t1, rfl⟩ := h
  exact x_ret (EvS.to (ev_tup (ds := [one, two]) (av_two (ev_var rfl) (ev_var rfl))) ⟨_, _, rfl, t1, t2⟩)
end
end Z
/-! the call of a lambda -/
namespace Z
open PySem PySem.Spec PyProof.Rows L2
def wAs1 (K : PySem.W.Frag) (c : Value) (i : Nat) (ts : Addr → Value → Option Addr → TS) (D : Ends) : WX := fun cls d σ H =>
  PySem.W.exmOne K cls c = some true ∧ ∀ a, H a = none → ts a cls d { nx := fun σ' H' => D.nx (σ'.set i none) H', rt := D.rt, bk := fun σ' H' => D.bk (σ'.set i none) H', ct := fun σ' H' => D.ct (σ'.set i none) H' } (σ.set i (some (.ref a))) H
section
variable {X : Cx} {x n : Str} {c : Value} {i : Nat} {body suite : List Stmt} {b₀ : Stmt} {hds : List ExceptHandler} {np pos pos' : Pos} {tb : WX → TS} {ts : Addr → Value → Option Addr → TS}
theorem ps_try_as1 (hs : X.stack = X.env :: X.outer) (hf : X.env.frame = some X.env.locals) (hN : X.N.Nodup) (hi : X.N[i]? = some n) (hln : X.env.kindOf n = some .local) (hc : Names X x c)
    (hb : ∀ (W : WX) (pn : List (Addr × Obj)) (xe : Value → Shared → Prop), Takes (X.tr pn xe) W → PassesOwn (model X.prog X.w) X.A X.env xe → PSs (X.tr pn xe) body (tb W))
    (hsu : ∀ (a : Addr) (oe : Obj) (cls : Value) (d : Option Addr) (pn : List (Addr × Obj)), Zc cls d oe → (∃ vs, oe.data = .fields vs) → PSs (X.suite a ((a, oe) :: pn)) (b₀ :: suite) (ts a cls d)) :
    PS X (.Try body (.ExceptHandler (some (.Name x np)) (some n) (b₀ :: suite) pos' :: hds) [] [] pos) (fun D σ H => tb (wAs1 X.K c i ts D) D σ H) := by
  refine ⟨fun pins s σ H D I h => ?_⟩
  have ok := I.ok
  have hfr : X.A.frames = some (X.env :: X.outer) := by rw [ok.frames, hs]
  have hloc : Loc X.env.scope n := .inl hln
  refine wpAny_Try_except ?_
  refine wpAny_mono ((hb (wAs1 X.K c i ts D) (X.pn ++ pins) (fun e s₁ => wpAny (model X.prog X.w) X.A (noteFrame e X.env) (fun _ s₂ => wpAny (model X.prog X.w) X.A (setFlight e none) (fun _ s₃ =>
    wpAny (model X.prog X.w) X.A (handleBy e X.env (.ExceptHandler (some (.Name x np)) (some n) (b₀ :: suite) pos' :: hds)) (SP X pins D) X.xe s₃) X.xe s₂) X.xe s₁) (fun u s' xx => ?_) PassesOwn.looking).run [] s σ H D (I.toTry _) h) (fun f s1 hsp => ?_) (fun e s1 he => he)
  · -- the catch
    obtain ⟨a, B, sI, pins', σ', H', cls, d, rfl, J', nb, up, sky, na, os, ag, hb1, hyes⟩ := xx
    have J : Inv X pins σ' H' sI := J'.ofTry ok
    have sky' : Sky B (X.env :: X.outer) a (Zc cls d) X.env.locals s'.heap := by rw [← hs]; exact sky
    show wpAny (model X.prog X.w) X.A (noteFrame (.ref a) X.env) _ _ _
    refine Sky.land Zc.steady hfr hf sky' fun h3 fl3 up3 => ?_
    have J3 : Inv X pins σ' H' { s' with heap := h3 } := J.landed nb fl3.1 (up.trans up3) os ag
    obtain ⟨oe3, vs3, he3, hz3, hd3⟩ := fl3.there
    have notFr : ∀ {h : Heap} {o : Obj} {vs : Array Value}, h.FunFrames B (X.env :: X.outer) → h.get? a = some o → o.data = .fields vs → a ∉ frs (X.env :: X.outer) := fun {h o vs} ff e dd hm => by
      obtain ⟨_, o', e', hnf⟩ := ff.mem hm
      rw [e] at e'; cases e'
      exact hnf _ dd
    have nfr := notFr fl3.2.2.1 he3 hd3
    have nL : a ≠ X.env.locals := fun z => nfr (List.mem_filterMap.mpr ⟨X.env, List.mem_cons_self, by rw [hf, z]⟩)
    have nF : a ∉ X.fs := fun hm => by
      obtain ⟨e, he, q⟩ := List.mem_filterMap.mp hm
      exact nfr (List.mem_filterMap.mpr ⟨e, List.mem_cons_of_mem _ he, q⟩)
    have S3 := J3.suite he3 hd3 na nL nF
    refine wpAny_handleBy_cons (codeAny_handlers_test ?_) (by intro q; cases q)
    have LT : PySem.W.Looks (model X.prog X.w) h3 (typeOf (.ref a)) cls := fun A Q E s k q => wpAny_typeOf_ref (k _ _ he3) (by rw [hz3.1]; exact q)
    have LM := PySem.W.exm_one (M := model X.prog X.w) (J3.kIn) LT hb1
    have test : ∀ {Q : Value → Shared → Prop} {E : Value → Shared → Prop}, Q c { s' with heap := h3 } → wpAny (model X.prog X.w) (X.A.mark (some (.ref a))) (eval (.Name x np) X.env) Q E { s' with heap := h3 } := fun {Q E} q => by
      obtain ⟨hg, hdbg, hm | ⟨hm, hv, hnn⟩⟩ := hc
      · exact ld_glob (X := X.suite a ((a, oe3) :: (X.pn ++ pins))) S3 hg hm q hdbg
      · exact ld_blt (X := X.suite a ((a, oe3) :: (X.pn ++ pins))) S3 hg hm hv q hnn hdbg
    refine test (LM.here ?_)
    refine codeAny_handlers_suite_as ?_
    refine HandSPX.lands_againZ fl3 fun h4 fl4 up4 => ?_
    have J4 : Inv X pins σ' H' { s' with heap := h4 } := J.landed nb fl4.1 ((up.trans up3).trans up4) os ag
    obtain ⟨oe4, vs4, he4, hz4, hd4⟩ := fl4.there
    have S4 := J4.suite he4 hd4 na nL nF
    refine store_ok (X := X.suite a ((a, oe4) :: (X.pn ++ pins))) (v := .ref a) S4 hN hi hloc rfl (fun s5 S5 => ?_) (.inr hln)
    refine wpAny_mono ((hsu a oe4 cls d (X.pn ++ pins) hz4 ⟨_, hd4⟩).run [] s5 _ H' _ S5 (hyes a na)) (fun f s6 hsp => ?_) (fun _ _ z => False.elim z)
    have end_ : ∀ {σ6 : L2.St} {H6 : Hp} {Q : Shared → Prop}, Inv (X.suite a ((a, oe4) :: (X.pn ++ pins))) [] σ6 H6 s6 → (∀ s7, Inv X pins (σ6.set i none) H6 s7 → Q s7) →
        wpAny (model X.prog X.w) X.A (do bindName X.env n .none; unbindBehindTheSuite X.env n pos') (fun _ s7 => Q s7) X.xe s6 := fun {σ6 H6 Q} S6 hq => gone_ok (S6.unsuite ok) hN hi hln hq
    cases f with
    | next =>
      obtain ⟨σ6, H6, S6, q6⟩ := hsp
      exact end_ S6 fun s7 J7 => ⟨_, _, J7, q6⟩
    | brk =>
      obtain ⟨σ6, H6, S6, q6⟩ := hsp
      exact end_ S6 fun s7 J7 => ⟨_, _, J7, q6⟩
    | cont =>
      obtain ⟨σ6, H6, S6, q6⟩ := hsp
      exact end_ S6 fun s7 J7 => ⟨_, _, J7, q6⟩
    | ret u =>
      obtain ⟨v6, σ6, H6, S6, r6, q6⟩ := hsp
      exact end_ S6 fun s7 J7 => ⟨_, _, _, J7, r6, q6⟩
  · cases f with
    | next =>
      obtain ⟨σ', H', J', q⟩ := hsp
      exact wpAny_execs_nil ⟨σ', H', J'.ofTry ok, q⟩
    | brk =>
      obtain ⟨σ', H', J', q⟩ := hsp
      exact ⟨σ', H', J'.ofTry ok, q⟩
    | cont =>
      obtain ⟨σ', H', J', q⟩ := hsp
      exact ⟨σ', H', J'.ofTry ok, q⟩
    | ret u =>
      obtain ⟨v, σ', H', J', r, q⟩ := hsp
      exact ⟨v, σ', H', J'.ofTry ok, r, q⟩
end
section
variable {X : Cx} {pins : List (Addr × Obj)} {σ : L2.St} {H HZ : Hp} {s s1 : Shared}
theorem lam_act {CXg : CXT} {Eg : XK} {Ng : List Str} {qg : Str} {sg : Scope} {g f c' : Addr} {cdg pm ctv : Value} {params : Arguments} {body : Expr} {scope : Scope} {k i : Nat} {a : Str} {pn : List (Addr × Obj)} {xe : Value → Shared → Prop} {W : WX} {tb : XK → TE} {p1 p2 : Pos}
    (I : Inv X pins σ H s) (L : LamX.LamS X.env.scope scope) (hf : s.heap.get? f = some (PySem.W.kla_obj "<lambda>" (X.env.qual ++ "<lambda>") params body scope (cloFrom X.env.cells scope.names []) pm c' ctv)) (hfn : H f = none) (hfr : f ∉ frs X.stack)
    (hbind : bindArgs (PySem.W.kla_fn "<lambda>" (X.env.qual ++ "<lambda>") params body scope (cloFrom X.env.cells scope.names []) pm (.ref c') ctv) ⟨[], []⟩ = pure [])
    (tk : Takes ((cxOf CXg X.prog X.w X.K X.mg X.base Ng qg sg g cdg X.A X.stack s H Eg).tr pn xe) W) (hr : Room (k + 1) (X.A.deeper (envOfC qg sg s.heap.objs.size g cdg)))
    (hbody : ∀ (A : Around) (outer : List Env) (s : Shared) (H : Hp) (E : XK), Room k (A.deeper (LamX.lamEnv X scope s.heap.objs.size f c')) → PE (LamX.lamCx X A outer s H E scope f c') body (tb E))
    (hN : Ng[i]? = some a) (hv : Vis sg a) (hd : (a == ("__debug__" : Str)) = false := by decide) (hcd : (a == ("__classdict__" : Str)) = false := by decide) :
    PE ((cxOf CXg X.prog X.w X.K X.mg X.base Ng qg sg g cdg X.A X.stack s H Eg).tr pn xe) (.Call (.Name a p1) [] [] p2)
      (fun σZ HZ Q => σZ[i]? = some (some (.ref f)) ∧ HZ c' = some (LamX.CodeO c' (X.env.qual ++ "<lambda>")) ∧ ∃ E : XK, (∀ cls d H', E cls d H' → W cls d σZ H') ∧ tb E σ HZ Q) := by
  refine ⟨fun pinsZ sZ σZ HZ Q IZ h => ?_⟩
  obtain ⟨hs, hc, E, hE, ht⟩ := h
  refine wpAny_Call_Name_kw (thn ((pe_var (pos := p1) (i := i) hN hv hd hcd).run pinsZ sZ σZ HZ (fun v H1 => v = .ref f ∧ H1 = HZ) IZ ⟨.ref f, hs, rfl, rfl⟩) fun u s1 ⟨v, H1, I1, r1, q1⟩ => ?_)
  obtain ⟨ev, eH⟩ := q1
  subst ev
  rw [eH] at I1
  obtain rfl : u = Value.ref f := r1
  have of1 : s1.heap.get? f = some (PySem.W.kla_obj "<lambda>" (X.env.qual ++ "<lambda>") params body scope (cloFrom X.env.cells scope.names []) pm c' ctv) := I1.base.keep f _ hf hfn hfr (fun z => nomatch (show f ∈ ([] : List Addr) from z))
  refine PySem.W.callWith_F0 ⟨_, _, _, _, of1⟩ ?_
  have un : Un (frs X.stack) [] H HZ s.heap s1.heap := I1.base
  obtain ⟨⟨oc, vs, t, hoc, hdc, hvc⟩, _, _⟩ := I1.hok c' _ hc
  have rc : codeAny (model X.prog X.w) (X.A.deeper (envOfC qg sg s.heap.objs.size g cdg)) (.call (.ref f) ⟨[], []⟩) (CR (L2.CX X.prog X.w) (envOfC qg sg s.heap.objs.size g cdg :: X.stack) X.prog X.w HZ s1 Q E) s1 := by
    refine PySem.W.kla_callFunE hr.depth of1 rfl L.co L.gen rfl ⟨c', oc, vs, t, rfl, hoc, hdc, hvc⟩ ?_
    rw [hbind]
    refine wpAny_pure (wpAny_newFunctionEnv (fun y hy => (L.own y hy).2) (fun y hy => absurd hy (by simp)) (fun h₁ hns hsb => ⟨I1.nolimit.fresh _ hsb, ?_⟩) L.kind)
    show codeAny _ _ (.expr body (LamX.lamEnv X scope s1.heap.objs.size f c')) _ _
    have kp : ∀ b o, s1.heap.get? b = some o → h₁.get? b = some o := fun b o e => hsb.extBut b o (Nat.ne_of_lt (Heap.lt_size e)) (Heap.get?_push_of_some _ e)
    have J : Inv (LamX.lamCx X (X.A.deeper (envOfC qg sg s.heap.objs.size g cdg)) (envOfC qg sg s.heap.objs.size g cdg :: X.stack) s1 HZ E scope f c') [] σ HZ { s1 with heap := h₁, toks := s1.toks + ([] : List (Str × Value)).length } :=
      LamX.lam_start2 I L I1.env0 hr.hd un hns kp
    refine PySem.W.kla_codeExpr (wpAny_mono ((hbody _ _ s1 HZ E (hr.deeper _)).run [] _ _ HZ Q J ht) (fun v s' hq => ?_) fun e s' hq => hq)
    obtain ⟨w', H', J', rv, q⟩ := hq
    exact ⟨w', H', J'.os, J'.bare, J'.base, J'.hok, rv, q⟩
  refine wpAny_call (codeAny_mono rc fun r s' hq => ?_)
  cases r with
  | error e => exact tk e s' (XE.of_call I1 hE hq)
  | ok fl =>
    cases fl with
    | ret u => exact I1.after hq
    | next => exact False.elim hq
    | brk => exact False.elim hq
    | cont => exact False.elim hq
end
def ExtP (P : Addr) (H H' : Hp) : Prop := ∀ b o, b ≠ P → H b = some o → H' b = some o
section
variable {X : Cx} {pins : List (Addr × Obj)} {σ : L2.St} {H : Hp} {s : Shared}
/-- the lambda is made: its code object is new, or found in the table -/
theorem lam_make3 {T : List (Addr × Str)} {c P : Addr} {params : Arguments} {body : Expr} {scope : Scope} {pos : Pos} {E : Value → Shared → Prop} {Q : Value → Shared → Prop} (I : Inv X pins σ H s) (TB : LamX.TabB X.base X.mg c P) (hcode : X.env.code = .ref c)
    (hm : (P, X.env.qual ++ "<lambda>") ∈ T) (hu : ∀ p ∈ T, p.1 = P → p.2 = X.env.qual ++ "<lambda>") (hT : LamX.Tabs T H) (hdef : defaultsOf params X.env = ([], [])) (hfree : ∀ y ∈ scope.names, y.2 = .free → ∃ c, X.env.cells.lookup y.1 = some c)
    (h : ∀ (f c' : Addr) (pm ctv : Value) (H1 : Hp) (s' : Shared), Inv X pins σ H1 s' → ExtP P H H1 → LamX.Tabs T H1 →
      s'.heap.get? f = some (PySem.W.kla_obj "<lambda>" (X.env.qual ++ "<lambda>") params body scope (cloFrom X.env.cells scope.names []) pm c' ctv) → H1 f = none → f ∉ frs X.stack → H1 c' = some (LamX.CodeO c' (X.env.qual ++ "<lambda>")) → Q (.ref f) s') :
    wpAny (model X.prog X.w) X.A (eval (.Lambda params body scope pos) X.env) Q E s := by
  obtain ⟨ps, hP, ht, ha⟩ := hT _ hm
  refine PySem.W.kla_eval hdef ?_
  have bP : s.heap.BuiltinsAt X.mg P := TB.bm.keeps I.bk
  have hP' : s.heap.get? P = some { cls := .none, data := .fields ps } := I.hok P _ hP
  have nofr : ∀ f, s.heap.objs.size ≤ f → f ∉ frs X.stack := fun f hf z => by
    rcases List.mem_cons.mp (I.stkSub _ z) with e | e
    · have h1 := I.lt
      rw [← e] at h1
      exact Nat.lt_irrefl _ (Nat.lt_of_lt_of_le h1 hf)
    · exact I.nofs hf e
  cases hc : codeAmong pos ps.toList with
  | none =>
    refine PySem.W.kla_makeFunction (mg := X.mg) (c := c) (P := P) (ps := ps) (closure_ok hfree) I.ok.glob (I.mod.glob.keeps I.bk) hcode (TB.code.keeps I.bk) hP' ht hc TB.gP bP fun c' ctv h' tk hx hge hlt hrec htb => ?_
    obtain ⟨c2, oc, vs, t, e2, hoc, hd, hv⟩ := hrec
    cases e2
    have hsz : s.heap.objs.size ≤ h'.objs.size := Nat.le_trans hge (Nat.le_of_lt hlt)
    have nC : H c' = none := I.hok.fresh hge
    have I1 := LamX.inv_table (t' := tk) (more := #[rawInt pos.line, rawInt pos.col, .ref c']) (h' := h'.push (PySem.W.kla_obj "<lambda>" (X.env.qual ++ "<lambda>") params body scope (cloFrom X.env.cells scope.names []) ((X.mg "__name__").getD .none) c' ctv)) I hP
      (fun b o hb e => Heap.get?_push_of_some _ (hx b o hb e)) (Heap.get?_push_of_some _ htb) hge ⟨oc, vs, t, Heap.get?_push_of_some _ hoc, hd, hv⟩
    have hE : ExtP P H (upd (upd H P (.tbl (ps ++ #[rawInt pos.line, rawInt pos.col, .ref c']))) c' (LamX.CodeO c' (X.env.qual ++ "<lambda>"))) := fun b o n e => by
      rw [upd_ne (ne_of_none e nC), upd_ne n]
      exact e
    have eL : (ps ++ #[rawInt pos.line, rawInt pos.col, .ref c']).toList = ps.toList ++ [rawInt pos.line, rawInt pos.col, .ref c'] := by simp
    refine h h'.objs.size c' ((X.mg "__name__").getD .none) ctv _ _ I1 hE (fun p hp => ?_) (Heap.get?_push_size _ rfl) ?_ (nofr _ hsz) upd_same
    · by_cases hb : p.1 = P
      · rw [hu p hp hb, hb]
        refine ⟨_, by rw [upd_ne (ne_of_none hP nC), upd_same], by rw [eL]; exact PySem.TriplesOk_snoc _ _ _ _ ht, fun p' cv hcv => ?_⟩
        rw [eL] at hcv
        rcases LamX.among_app _ ht hcv with z | z
        · obtain ⟨c0, e1, e2⟩ := ha p' cv z
          exact ⟨c0, e1, hE _ _ (fun z => by rw [z, hP] at e2; exact LamX.codeO_ne ps (Option.some.inj e2).symm) e2⟩
        · exact ⟨c', z, upd_same⟩
      · obtain ⟨ps', a1, a2, a3⟩ := hT p hp
        refine ⟨ps', by rw [upd_ne (ne_of_none a1 nC), upd_ne hb]; exact a1, a2, fun p' cv hcv => ?_⟩
        obtain ⟨c0, e1, e2⟩ := a3 p' cv hcv
        exact ⟨c0, e1, hE _ _ (fun z => by rw [z, hP] at e2; exact LamX.codeO_ne ps (Option.some.inj e2).symm) e2⟩
    · have n1 : h'.objs.size ≠ c' := Nat.ne_of_gt hlt
      have n2 : h'.objs.size ≠ P := Nat.ne_of_gt (Nat.lt_of_lt_of_le (Heap.lt_size hP') hsz)
      rw [upd_ne n1, upd_ne n2]
      exact I.hok.fresh hsz
  | some cv =>
    obtain ⟨c', e, hco⟩ := ha pos cv hc
    subst e
    refine PySem.W.kla_makeFunctionHit (mg := X.mg) (c := c) (P := P) (ps := ps) (closure_ok hfree) I.ok.glob (I.mod.glob.keeps I.bk) hcode (TB.code.keeps I.bk) hP' ht hc bP fun ctv h' tk hx hsz => ?_
    have I1 : Inv X pins σ H { s with heap := h'.push (PySem.W.kla_obj "<lambda>" (X.env.qual ++ "<lambda>") params body scope (cloFrom X.env.cells scope.names []) ((X.mg "__name__").getD .none) c' ctv), toks := tk } := I.kept fun b o e => Heap.get?_push_of_some _ (hx b o e)
    exact h h'.objs.size c' ((X.mg "__name__").getD .none) ctv H _ I1 (fun _ _ _ e => e) hT (Heap.get?_push_size _ rfl) (I.hok.fresh hsz) (nofr _ hsz) hco
end
def tLamP (Pt : Addr) (T : List (Addr × Str)) (TT : (XK → Hp → VK → Prop) → Hp → VK → Prop) (t : XK → TE) : TE := fun σ H Q => LamX.Tabs T H ∧ ∀ H1, ExtP Pt H H1 → LamX.Tabs T H1 → TT (fun E H' Q' => t E σ H' Q') H1 Q
/-- the def that calls what it got: a calls it; TT: what it makes of the lambda's reading -/
def GivesC (X : Cx) (Ng : List Str) (x : Str) (sg : Scope) (g : Addr) (cdg : Value) (bg : List Stmt) (a : Str) (q : Str) (TT : (XK → Hp → VK → Prop) → Hp → VK → Prop) : Prop :=
  ∀ (f c' : Addr) (s : Shared) (H : Hp) (Q : VK) (tl : XK → Hp → VK → Prop),
    (∀ (W : WX) (pn : List (Addr × Obj)) (xe : Value → Shared → Prop) (p1 p2 : Pos), Takes ((cxOf C8.CX0 X.prog X.w X.K X.mg X.base Ng x sg g cdg X.A X.stack s H C8.E0).tr pn xe) W →
      PE ((cxOf C8.CX0 X.prog X.w X.K X.mg X.base Ng x sg g cdg X.A X.stack s H C8.E0).tr pn xe) (.Call (.Name a p1) [] [] p2) (fun σZ HZ Q => σZ[0]? = some (some (.ref f)) ∧ HZ c' = some (LamX.CodeO c' q) ∧ ∃ E : XK, (∀ cls d H', E cls d H' → W cls d σZ H') ∧ tl E HZ Q)) →
    H c' = some (LamX.CodeO c' q) → TT tl H Q →
    ∃ t, PSs (cxOf C8.CX0 X.prog X.w X.K X.mg X.base Ng x sg g cdg X.A X.stack s H C8.E0).nox bg t ∧ t { nx := fun _ H' => Q .non H', rt := Q } (L2.start Ng [.ref f]) H
section
variable {X : Cx}
theorem lam_call {T : List (Addr × Str)} {TT : (XK → Hp → VK → Prop) → Hp → VK → Prop} {x a : Str} {g c P : Addr} {k : Nat} {pg : Arguments} {bg : List Stmt} {sg : Scope} {dV kV doc pm cdv ct oc : Value} {an od : Option Addr} {osl : Array (Option Value)} {Ng : List Str}
    {params : Arguments} {body : Expr} {scope : Scope} {t : XK → TE} {p lpos pos : Pos} (hg : Gl X x) (hm : X.mg x = some (.ref g)) (hk : PySem.W.keepIn X.K (.ref g) = true)
    (lk : X.K.lookup g = some ⟨oc, od, .func (PySem.W.fnOf x x pg bg sg dV kV doc pm an cdv ct), osl⟩) (hcg : PySem.W.codeIn X.K cdv x = true) (hb : L2.Binds X.K (PySem.W.fnOf x x pg bg sg dV kV doc pm an cdv ct) [a] []) (Sg : FnScope Ng [a] sg) (hNg : Ng[0]? = some a) (hva : Vis sg a)
    (hG : GivesC X Ng x sg g cdv bg a (X.env.qual ++ "<lambda>") TT)
    (TB : LamX.TabB X.base X.mg c P) (hcode : X.env.code = .ref c) (hmT : (P, X.env.qual ++ "<lambda>") ∈ T) (hu : ∀ p ∈ T, p.1 = P → p.2 = X.env.qual ++ "<lambda>") (hr : Room (k + 2) X.A) (L : LamX.LamS X.env.scope scope) (hdef : defaultsOf params X.env = ([], []))
    (hbind : ∀ (q : Str) (cl : List (Str × Addr)) (pm cv ctv : Value), bindArgs (PySem.W.kla_fn "<lambda>" q params body scope cl pm cv ctv) ⟨[], []⟩ = pure [])
    (hbody : ∀ (A : Around) (outer : List Env) (s : Shared) (H : Hp) (E : XK) (f c' : Addr), Room k (A.deeper (LamX.lamEnv X scope s.heap.objs.size f c')) → PE (LamX.lamCx X A outer s H E scope f c') body (t E))
    (hdb : (x == ("__debug__" : Str)) = false := by decide) (hd : (a == ("__debug__" : Str)) = false := by decide) (hcd : (a == ("__classdict__" : Str)) = false := by decide) :
    PE X (.Call (.Name x p) [.Lambda params body scope lpos] [] pos) (tLamP P T TT t) := by
  refine ⟨fun pins s σ H Q I h => ?_⟩
  obtain ⟨hT, h⟩ := h
  refine wpAny_Call_Name_kw (ld_glob I hg hm ?_ hdb)
  refine PySem.W.callWith_K (h₀ := X.base) I.ok.mod.kin hk ?_ (by rfl) (by rfl)
  show wpAny _ _ (spliced ((false, eval (.Lambda params body scope lpos) X.env) :: backTo pos (starEach [] X.env))) _ _ s
  refine Calls.spliced_cons (lam_make3 I TB hcode hmT hu hT hdef (L.has I.ok) fun f c' pm' ctv H1 s' I1 eN T1 hf hfn hfr hco => ?_)
  refine Calls.spliced_nil ⟨I1.kIn, ?_⟩
  have rc : codeAny (model X.prog X.w) X.A (.call (.ref g) ⟨[.ref f], []⟩) (CR C8.CX0 X.stack X.prog X.w H1 s' Q C8.E0) s' := by
    refine LamX.run_ofS (N := Ng) (ps := [a]) (us := [.ref f]) (vs := [.ref f]) lk hcg Sg hr I1.env0 (hb s' [.ref f] I1.kIn rfl) (.cons rfl .nil) rfl fun hr' => ?_
    obtain ⟨t', ht', hq'⟩ := hG f c' s' H1 Q (fun E H' Q' => t E σ H' Q') (fun W pn xe p1 p2 tk => lam_act (i := 0) I1 L hf hfn hfr (hbind _ _ _ _ _) tk hr' (fun A outer s H E hr2 => hbody A outer s H E f c' hr2) hNg hva hd hcd) hco (h H1 eN T1)
    exact ⟨t', ht'.nox, hq'⟩
  refine wpAny_call (codeAny_mono rc fun r s2 hq => ?_)
  cases r with
  | error e => exact (show False from hq).elim
  | ok fl =>
    cases fl with
    | ret u => exact I1.after hq
    | next => exact False.elim hq
    | brk => exact False.elim hq
    | cont => exact False.elim hq

end
/-- what _law_call makes of its lambda -/
def TTc (K : PySem.W.Frag) (cI : Addr) : (XK → Hp → VK → Prop) → Hp → VK → Prop := fun tl H Q => ∀ Q', tl (fun cls d H' => cls = .ref cI ∧ ∃ (dd : Addr) (fs : List (Str × V)), d = some dd ∧ H' dd = some (.xd fs) ∧ fs.lookup ("code" : Str) = some (.str INV) ∧ ∀ p, H' p = none → Q (.ref p) (upd H' p (.tup [.non, .str INV]))) H Q'
section
variable {K : PySem.W.Frag} {mg : Str → Option Value}
theorem call_gives {X : Cx} (Er : ErrF K mg) (hK : X.K = K) (hM : X.mg = mg) {g : Addr} {cdg : Value} {q : Str} :
    GivesC X n_L_call "_law_call" (defScope s_L_call) g cdg (defBody s_L_call) "_law_ask" q (TTc K Er.cI) := by
  subst hK hM
  intro f c' s H Q tl act hc h
  refine ⟨_, pss_cons (ps_set (i := 1) sc_L_call.nd rfl (by first | exact Or.inl rfl | exact Or.inr rfl) pe_non)
    (pss_cons (ps_set (i := 2) sc_L_call.nd rfl (by first | exact Or.inl rfl | exact Or.inr rfl) pe_str)
    (pss_cons (ps_try_as1 (i := 3) (c := .ref Er.cF) (n := "e") (tb := fun W D σ H => ∃ Ech : XK, (∀ cls d H', Ech cls d H' → W cls d σ H') ∧ σ[0]? = some (some (.ref f)) ∧ H c' = some (LamX.CodeO c' q) ∧ tl Ech H fun v H1 => D.nx (σ.set 1 (some v)) H1) (ts := fun a cls d D σ H => cls = .ref Er.cI ∧ tAsg (tXf a cls d Er.cI "code" (tVar 3)) (gName 2) D σ H) rfl rfl sc_L_call.nd rfl rfl ⟨rfl, rfl, .inl Er.cFg⟩ (fun W pn xe tk _ => ?_) (fun a oe cls d pn hz hf => ?_))
    (pss_one (ps_ret (pe_tup (pa_cons (pv 1) (pa_cons (pv 2) pa_nil))))))), ?_⟩
  · refine pss_one ⟨fun pins s' σ H' D I h' => ?_⟩
    obtain ⟨Ech, hW, h1, h2, h3⟩ := h'
    exact (ps_set (i := 1) sc_L_call.nd rfl (by first | exact Or.inl rfl | exact Or.inr rfl) (act W pn xe _ _ tk)).run pins s' σ H' D I ⟨h1, h2, Ech, hW, h3⟩
  · refine pss_one ⟨fun pins s' σ H' D I ⟨e, h'⟩ => ?_⟩
    subst e
    exact (ps_set (i := 2) sc_L_call.nd rfl (by first | exact Or.inl rfl | exact Or.inr rfl) (pe_xf (X := (cxOf C8.CX0 X.prog X.w X.K X.mg X.base n_L_call "_law_call" (defScope s_L_call) g cdg X.A X.stack s H C8.E0).nox) Er.xf Er.noC hz hf (pv 3))).run pins s' σ H' D I h'
  · refine ⟨_, fun cls d H' hE => ?_, rfl, hc, h _⟩
    obtain ⟨e, dd, fs, ed, hd, hl, q'⟩ := hE
    subst e
    refine ⟨Er.isF, fun a na => ⟨rfl, ?_⟩⟩
    exact ⟨_, rfl, rfl, rfl, dd, fs, _, ed, hd, hl, _, rfl, _, rfl, (by show 2 ≤ sizeLine; decide), fun p hp => q' p hp⟩
end
end Z
/-! rules for the law's own lines -/
namespace Z
open PySem L2
/-! ### f(k = v, ..) without positional values -/
section
open PySem.Spec PyProof.Rows
variable {X : Cx} {CX : CXT} {k : Nat} {f : Addr} {fd : FuncData} {ps ks : List Str} {sp : Sp} {E : XK} {x : Str} {p pos : Pos} {kws : List Keyword} {tk : TA} {g : List Value → List Value → List Value} {gV : List V → List V → List V}
theorem pe_callK0 (F : FnOk X.prog X.w X.K X.mg X.base CX k f fd ps sp) (hr : Room k X.A) (hg : Gl X x) (hm : X.mg x = some (.ref f)) (hk : PySem.W.keepIn X.K (.ref f) = true) (hb : KBinds X.K fd ps ks g gV) (hx : Passes CX X E)
    (hkw : PK X kws tk) (hall : (backToKw pos (keywordEach kws X.env)).all (·.1.isSome) = true := by rfl) (hks : (backToKw pos (keywordEach kws X.env)).filterMap (·.1) = ks := by rfl)
    (hdb : (x == ("__debug__" : Str)) = false := by decide)
    (hpl : ((backTo pos (starEach [] X.env)).any (·.1) || (backToKw pos (keywordEach kws X.env)).any (·.1.isNone)) = false := by rfl) :
    PE X (.Call (.Name x p) [] kws pos) (tCallK sp gV E tNil tk) := by
  refine ⟨fun pins s σ H Q I h => ?_⟩
  refine wpAny_Call_Name_kw (ld_glob I hg hm ?_ hdb)
  refine PySem.W.callWith_KW0 (h₀ := X.base) I.ok.mod.kin hk hall ?_ hpl
  refine thn (hkw.run pos pins _ σ H _ I h) fun ws s2 ⟨zs, H2, I2, rz, q2⟩ => ⟨I2.kIn, ?_⟩
  rw [hks]
  exact run_fnk F hr hb hx I2 .nil rz q2
end
def gRL : List Value → List Value → List Value
  | [], [r, l] => [l, r]
  | _, _ => []
def gRLV : List V → List V → List V
  | [], [r, l] => [l, r]
  | _, _ => []
/-! ### what fits -/
theorem right_fitD {S : List St3} {n : Nat} {s : St3} (h : Right S n s) (hl : isT 9 s.l = true) (hr : isT 9 s.r = true) : Fit 10 s.d := Fit.tuple fun d hd => by
  simp only [List.mem_cons, List.not_mem_nil, or_false] at hd
  rcases hd with rfl | rfl | rfl
  · exact isT_fit hl
  · exact isT_fit hr
  · cases h with
    | same => exact (fit1 (z := "same")).mono (by decide)
    | partA _ => exact (fit1 (z := "part")).mono (by decide)
    | partO _ => exact (fit1 (z := "part")).mono (by decide)
    | chain _ _ _ _ =>
      refine Fit.mono (n := 1) (Fit.tuple fun d hd => ?_) (by decide)
      simp only [List.mem_cons, List.not_mem_nil, or_false] at hd
      rcases hd with rfl | rfl | rfl
      · exact fit_s
      · exact Fit.int _
      · exact Fit.int _
    | into _ _ => exact (fit_many (k := "into")).mono (by decide)
    | out _ _ => exact (fit_many (k := "out")).mono (by decide)
theorem steps_fit {S : List St3} (h : Dv S) : Fit 11 (stepsD S) := Fit.list fun d hd => by
  obtain ⟨s, hs, rfl⟩ := List.mem_map.mp hd
  obtain ⟨i, hi, e⟩ := List.mem_iff_getElem.mp hs
  exact right_fitD (h.ok i s (by rw [List.getElem?_eq_getElem hi, e])) (h.tt s hs).1 (h.tt s hs).2
theorem btw_fit {l r : PyData} (h : TwoT l r) : Fit 12 (btw l r) := by
  unfold btw
  by_cases hB : B l r = true
  · rw [if_pos hB]
    refine Fit.tuple fun d hd => ?_
    simp only [List.mem_cons, List.not_mem_nil, or_false] at hd
    rcases hd with rfl | rfl | rfl
    · exact (isT_fit (h.found hB).tT).mono (by decide)
    · exact steps_fit (h.found hB).d1
    · exact steps_fit (h.found hB).d2
  · rw [if_neg hB]
    exact Fit.none
/-! ### swapped -/
theorem swp_up : ∀ {n m : Nat} {a b : Str} {d : PyData}, isT n d = true → n ≤ m → swp m a b d = swp n a b d := by
  intro n
  induction n with
  | zero => intro m a b d h; simp [isT] at h
  | succ n ih =>
    intro m a b d h hm
    obtain ⟨m, rfl⟩ : ∃ k, m = k + 1 := ⟨m - 1, by omega⟩
    obtain ⟨n', e, c⟩ := isT_cases h
    cases e
    rcases c with ⟨z, rfl, hz⟩ | ⟨o, ps, rfl, h1, h2, h3⟩
    · rw [swp, swp]
    · rw [swp, swp]
      congr 2
      exact List.map_congr_left fun p hp => ih (h3 p hp) (by omega)
theorem two_inv {o : Str} {a b : PyData} (h : isTerm (.tuple [.str o, a, b]) = true) : isT 4 a = true ∧ isT 4 b = true ∧ lv a + lv b ≤ 24 := by
  obtain ⟨h1, h2⟩ := isTerm_iff.mp h
  rw [isT_node] at h1
  rw [lv_node] at h2
  simp at h1 h2
  exact ⟨h1.2.1, h1.2.2, h2⟩
theorem two_swp {o p : Str} {a b : PyData} {x y : Str} (ho : isOp o = true) (hy : isLetS y = true) (h : isTerm (.tuple [.str p, a, b]) = true) : isTerm (.tuple [.str o, swp 5 x y b, a]) = true ∧ isTerm (.tuple [.str o, b, swp 5 x y a]) = true := by
  obtain ⟨h1, h2, h3⟩ := two_inv h
  have ea := swp_up (a := x) (b := y) h1 (show 4 ≤ 5 by decide)
  have eb := swp_up (a := x) (b := y) h2 (show 4 ≤ 5 by decide)
  obtain ⟨a1, a2⟩ := swp_ok 4 (a := x) h1 hy
  obtain ⟨b1, b2⟩ := swp_ok 4 (a := x) h2 hy
  rw [ea, eb]
  refine ⟨isTerm_iff.mpr ⟨two_T ho b1 h1, ?_⟩, isTerm_iff.mpr ⟨two_T ho h2 a1, ?_⟩⟩
  · rw [lv_node]
    simp [a2, b2]
    omega
  · rw [lv_node]
    simp [a2, b2]
    omega
/-! ### a dict of one pair; {} handed on -/
section
variable {K : PySem.W.Frag} {W : Wd} {δ : List Sl} {g : W.G} {tk tv : TE} {P : Sl → W.G → Prop} {E : XK}
theorem ev_disp1 (hk : EvS K W tk δ g fun s _ => ∃ z : Str, s = .dat (.str z) ∧ isLetS z = true) (hv : ∀ g', EvS K W tv δ g' fun s _ => ∃ z : Str, s = .dat (.str z) ∧ isLetS z = true)
    (k : ∀ a b g', isLetS a = true → isLetS b = true → P (.dat (.dict [(.str a, .str b)])) g') : EvS K W (tDisp [(tk, tv)]) δ g P := fun σ H i f Q q p hp => by
  have nN : ¬ W.N p := fun n => by
    obtain ⟨o, q⟩ := W.trk i n
    rw [hp] at q
    cases q
  have i0 : W.I g (upd H p (.dK [])) := W.mono i (Same.new hp)
  have f0 : Fr K W.N (upd H p (.dK [])) σ δ := Fr.same (Same.new hp) f
  refine hk σ _ i0 f0 _ fun vk sk g1 H1 e1 i1 r1 ⟨a, ea, ha⟩ => ?_
  subst ea
  cases (show Da K W.N H1 vk (.str a) from r1)
  refine hv g1 σ H1 i1 (f0.stp i0 e1) _ fun vv sv g2 H2 e2 i2 r2 ⟨b, eb, hb⟩ => ?_
  subst eb
  cases (show Da K W.N H2 vv (.str b) from r2)
  have st := e1.trans e2
  have e2p : H2 p = some (.dK []) := st.keep p _ (fun m => nN (W.sub _ m)) upd_same
  refine ⟨e2p, [(Sum.inr a, .str b)], rfl, (show 1 ≤ 15 by decide), ?_⟩
  refine q (.ref p) (.dat (.dict [(.str a, .str b)])) g2 _ ⟨fun x o m qx => ?_, fun x o qx => ?_⟩ (W.loc i2 (fun x n => upd_ne fun z => nN (z ▸ n)) fun x o h m => ?_) (.dct upd_same nN (.cons (.str b) .nil)) (k a b g2 ha hb)
  · rw [upd_ne (ne_of_none qx hp)]
    exact st.keep x o m (Same.new hp x o qx)
  · rw [upd_ne (ne_of_none qx hp)]
    exact st.there x o (Same.new hp x o qx)
  · rw [upd_ne fun z => by subst z; rw [e2p] at h; cases h; exact m trivial]
    exact h
theorem ev_callBelow {n j k : Nat} {l r : PyData} (h1 : δ[j]? = some (.dat l)) (h2 : δ[k]? = some (.dat r)) (two : TwoT l r) (hn : 10 ≤ n) : EvD K W (tCall (sp_L_below K n) [] E (tCons (tVar j) (tCons (tVar k) (tCons tDNewK tNil)))) δ g (.bool (B l r)) := fun σ H i f Q q => by
  obtain ⟨v1, e1, r1⟩ := f.at_ j _ h1 (by intro z; cases z)
  obtain ⟨v2, e2, r2⟩ := f.at_ k _ h2 (by intro z; cases z)
  refine ⟨_, e1, _, e2, fun p hp => ?_⟩
  have nN : ¬ W.N p := fun n => by
    obtain ⟨o, q⟩ := W.trk i n
    rw [hp] at q
    cases q
  let x : MI := { N := fun a => W.N a ∨ a = p, kd := p, l0 := l, r0 := r, obs := [], hk := .inr rfl, ho := fun _ z => (by cases z), hd := fun _ z => (by cases z), n0 := 5, m0 := 5, h1 := two.tl, h2 := two.tr, sz := two.sz }
  have hsub : ∀ a, (W.N a ∨ a = p) → (∃ o, H a = some o) → W.N a := fun a n ⟨o, q⟩ => n.elim id fun e => by subst e; rw [hp] at q; cases q
  have up : ∀ {v : V} {d : PyData}, Da K W.N H v d → Da K x.N (upd H p (.dK [])) v d := fun {v d} h =>
    Da.keep (N := x.N) (N' := x.N) (fun a o _ q => Same.new hp a o q) (fun a o q _ => Same.new hp a o q) (fun _ q _ => q) d v (Da.keep (N := W.N) (N' := x.N) (fun _ _ _ q => q) (fun _ _ q _ => q) hsub d v h)
  have iX : (WM x).I [] (upd H p (.dK [])) := ⟨fun a h => ?_, fun _ z => (by cases z), [], upd_same, ⟨.nil, fun _ z => (by cases z)⟩, fun _ z => (by cases z)⟩
  · refine ⟨(x, l, r), iX, .cons (up r1) (.cons (up r2) (.cons rfl .nil)), ⟨by show 5 ≤ 9; decide, by show 5 ≤ 9; decide, Nat.le_trans two.ll (by decide), Nat.le_trans two.lr (by decide), ⟨wk_self l, wk_self r⟩, 5, 5, two.tl, two.tr, hn⟩, fun v s g' H3 e3 i3 rv es => ?_⟩
    subst es
    cases (show Da K _ H3 v (.bool (B l r)) from rv)
    have st : Stp W H H3 := ⟨fun a o _ qa => e3.keep a o (fun z => by
        have : a = p := z
        subst this
        rw [hp] at qa
        cases qa) (Same.new hp a o qa), fun a o qa => e3.there a o (Same.new hp a o qa)⟩
    have sm : Same H H3 := fun a o qa => e3.keep a o (fun z => by
        have : a = p := z
        subst this
        rw [hp] at qa
        cases qa) (Same.new hp a o qa)
    exact q _ (.dat (.bool (B l r))) g H3 st (W.mono i sm) (.bl _) ⟨rfl, rfl⟩
  · rcases h with h | h
    · obtain ⟨o, e⟩ := W.trk i h
      exact ⟨o, Same.new hp a o e⟩
    · rw [h]; exact ⟨_, upd_same⟩
end
/-! ### the law's world: the source and the table of code objects -/
structure LI where
  x : SI
  pt : Addr
  q : Str
  hP : x.N pt
  ns : pt ≠ x.src
def WL (y : LI) : Wd where
  G := Unit
  M := fun a => a = y.x.src ∨ a = y.pt
  N := y.x.N
  I := fun _ H => (WS y.x).I () H ∧ LamX.Tabs [(y.pt, y.q)] H
  sub := fun a e => e.elim (fun e => e ▸ y.x.hS) fun e => e ▸ y.hP
  loc := fun {g H H'} i k t => ⟨(WS y.x).loc i.1 k t, fun p hp => by
    obtain ⟨ps, e1, e2, e3⟩ := i.2 p hp
    cases hp with
    | head =>
      refine ⟨ps, (k _ y.hP).trans e1, e2, fun pos cv hc => ?_⟩
      obtain ⟨c, z1, z2⟩ := e3 pos cv hc
      exact ⟨c, z1, t c _ z2 (by unfold LamX.CodeO; exact fun z => z)⟩
    | tail _ z => cases z⟩
  trk := fun i n => (WS y.x).trk i.1 n
  mu := fun {g H a} i e => by
    rcases e with e | e
    · exact (WS y.x).mu i.1 e
    · subst e
      obtain ⟨ps, e1, _⟩ := i.2 _ List.mem_cons_self
      rw [e1]
      trivial
theorem EmbS.law (y : LI) : EmbS y.x (WL y) := ⟨rfl, fun _ m => .inl m, fun _ _ i => i.1, fun _ H H' i e i' => ⟨i', fun p hp => by
    obtain ⟨ps, e1, e2, e3⟩ := i.2 p hp
    cases hp with
    | head =>
      refine ⟨ps, e.keep _ _ (fun m => y.ns m) e1, e2, fun pos cv hc => ?_⟩
      obtain ⟨c, z1, z2⟩ := e3 pos cv hc
      refine ⟨c, z1, e.keep c _ (fun m => ?_) z2⟩
      have m' : c = y.x.src := m
      obtain ⟨g4, j⟩ := i.1
      rw [m', j.2.2.1] at z2
      have z3 := Option.some.inj z2
      unfold LamX.CodeO at z3
      cases z3
    | tail _ z => cases z⟩⟩
theorem ev_lam {K : PySem.W.Frag} {y : LI} {cI : Addr} {δ : List Sl} {g : (WL y).G} {j k : Nat} {l r : PyData} (h1 : δ[j]? = some (.dat l)) (h2 : δ[k]? = some (.dat r)) (sl : shorts l = true) (sr : shorts r = true) (ht : (isTerm l && isTerm r) = false) :
    EvD K (WL y) (tLamP y.pt [(y.pt, y.q)] (TTc K cI) fun E => tCall (sp_betweenX K cI) [] E (tCons (tVar j) (tCons (tVar k) tNil))) δ g (.tuple [.none, .str INV]) := fun σ H i f Q q => ⟨i.2, fun H1 eP T1 Q' => by
  have st : Stp (WL y) H H1 := ⟨fun a o m qa => eP a o (fun z => m (.inr z)) qa, fun a o qa => by
    by_cases h : a = y.pt
    · subst h
      obtain ⟨ps, e1, _⟩ := T1 _ List.mem_cons_self
      exact ⟨_, e1⟩
    · exact ⟨o, eP a o h qa⟩⟩
  obtain ⟨⟨g4, j1, j2, j3, j4⟩, _⟩ := id i
  have i1 : (WL y).I () H1 := ⟨⟨g4, fun a n => let ⟨o, e⟩ := j1 a n; st.there a o e, eP _ _ (fun z => by
      obtain ⟨ps, e1, _⟩ := i.2 _ List.mem_cons_self
      have e1' : H y.pt = some (.tbl ps) := e1
      rw [z, e1'] at j2
      cases j2) j2, eP _ _ (fun z => y.ns z.symm) j3, j4⟩, T1⟩
  have f1 := f.stp i st
  obtain ⟨v1, e1, r1⟩ := f1.at_ j _ h1 (by intro z; cases z)
  obtain ⟨v2, e2, r2⟩ := f1.at_ k _ h2 (by intro z; cases z)
  refine ⟨_, e1, _, e2, (WL y).N, l, r, fun a n => (WL y).trk i1 n, .cons r1 (.cons r2 .nil), sl, sr, ht, fun dd fs H' sm hd hd' hl => ?_⟩
  have i2 : (WL y).I () H' := (WL y).mono i1 sm
  refine ⟨rfl, dd, fs, rfl, hd', hl, fun p hp => ?_⟩
  exact q (.ref p) (.dat (.tuple [.none, .str INV])) () _ ((st.trans (Stp.same sm)).trans (Stp.same (Same.new hp))) ((WL y).mono i2 (Same.new hp)) (new_tup (W := WL y) (g := ()) i2 hp (by decide) (.cons .non (.cons (.str _) .nil))) ⟨rfl, rfl⟩⟩
end Z
/-! the law -/
namespace Z
open PySem L2
section
variable {K : PySem.W.Frag} {W : Wd} {δ : List Sl} {g : W.G} {t : TS} {tl te : TE} {tg : TG} {tt : TT} {P : Sl → W.G → Prop} {E : XK}
theorem ExS.run0 {P : Po W} (h : ExS K W t δ g P) {D : Ends} {σ : St} {H : Hp} (i : W.I g H) (f : Fr K W.N H σ δ) (hr : ∀ v s g' H', Stp W H H' → W.I g' H' → RelS K W.N H' v s → P.rt s g' → D.rt v H') (hn : ∀ a b, ¬ P.nx a b) (hb : ∀ a b, ¬ P.bk a b) (hc : ∀ a b, ¬ P.ct a b) : t D σ H :=
  h D σ H i f ⟨fun _ _ _ _ _ _ _ z => (hn _ _ z).elim, hr, fun _ _ _ _ _ _ _ z => (hb _ _ z).elim, fun _ _ _ _ _ _ _ z => (hc _ _ z).elim⟩
theorem asgName {te : TE} {i : Nat} {u : TS} {D : Ends} {σ : St} {H : Hp} (h : te σ H fun v H1 => u D (σ.set i (some v)) H1) : tSeq (tAsg te (gName i)) u D σ H := h
theorem ev_lcLS {vs : List Nat} {P0 : List PyData → Prop} (h : EvS K W tl δ g fun s g' => g' = g ∧ ∃ ds, s = .dat (.list ds) ∧ P0 ds) (k : ∀ ds (tl' : TE), P0 ds → EvD K W tl' δ g (.list ds) → EvS K W (tLc (iList K tl') tg tt te vs) δ g P) : EvS K W (tLc (iList K tl) tg tt te vs) δ g P := fun σ H i f Q q =>
  h σ H i f _ fun v s g1 H1 e1 i1 r1 ⟨eg, ds, es, p0⟩ => by
    subst eg; subst es
    exact k ds (fun σ' H' Q' => RelS K W.N H' v (.dat (.list ds)) → Q' v H') p0 (fun σ' H' i' f' Q' q' r => q' v _ _ H' (Stp.refl H') i' r ⟨rfl, rfl⟩) σ H1 i1 (f.stp i e1) Q (fun v' s' g' H' e' i' r' p' => q v' s' g' H' (e1.trans e') i' r' p') r1
theorem ev_callRL {sp : Sp} {l r : PyData} (h1 : δ[4]? = some (.dat r)) (h2 : δ[3]? = some (.dat l)) (hr : RcS K W (fun vs H Q => sp vs H Q E) [.dat l, .dat r] g P) : EvS K W (tCallK sp gRLV E tNil (tCons (tVar 4) (tCons (tVar 3) tNil))) δ g P := fun σ H i f Q q => by
  obtain ⟨v1, e1, r1⟩ := f.at_ 4 _ h1 (by intro z; cases z)
  obtain ⟨v2, e2, r2⟩ := f.at_ 3 _ h2 (by intro z; cases z)
  exact ⟨_, e1, _, e2, hr [v2, v1] H i (.cons r2 (.cons r1 .nil)) Q q⟩
theorem rv_rep2 {ds : List PyData} (hz : ds.length * 2 ≤ sizeLine) : RvD K W rRep (.list ds) (.int 2) g (.list (ds ++ ds)) := fun v1 v2 H i r1 r2 Q q => by
  have r1' : Da K W.N H v1 (.list ds) := r1
  cases (show Da K W.N H v2 (.int 2) from r2)
  cases r1' with
  | lst x n z tt =>
    refine ⟨_, 2, _, rfl, rfl, x, by decide, by decide, by rw [tt.length]; exact hz, fun p hp => ?_⟩
    refine q _ (.dat (.list (ds ++ ds))) g _ (Stp.same (Same.new hp)) (W.mono i (Same.new hp)) (new_lst i hp ?_ ?_) ⟨rfl, rfl⟩
    · simp [tt.length]
      omega
    · show DaAll K W.N H (_ ++ (_ ++ [])) _
      rw [List.append_nil]
      exact tt.append tt
end
section
variable {P : Program} {w : World} {K : PySem.W.Frag} {mg : Str → Option Value} {base : Heap} {CB CF : Addr}
abbrev lamQ : Str := (("law" : Str) ++ ".<locals>.") ++ "<lambda>"
def sp_law (K : PySem.W.Frag) (Pt : Addr) : Sp := fun vs H Q _ => ∃ (a : Addr) (ns : List Int), vs = [.ref a] ∧ SqL K H a (ns.map V.int) ∧ ns.length ≤ sizeLine ∧ H Pt = some (.tbl #[]) ∧ ∀ H', Q (.bl true) H'
theorem eqv_bb (a b : Bool) : PyData.eqv (.bool a) (.bool b) = (a == b) := by cases a <;> cases b <;> rfl
theorem any_strs {ys : List Str} {z : Str} : (((ys.map PyData.str).any fun e => PyData.eqv e (.str z)) = true) ↔ z ∈ ys := by
  rw [List.any_eq_true]
  constructor
  · rintro ⟨e, he, h⟩
    obtain ⟨y, hy, rfl⟩ := List.mem_map.mp he
    have : y = z := by simpa [PyData.eqv] using h
    exact this ▸ hy
  · intro h
    exact ⟨_, List.mem_map.mpr ⟨z, h, rfl⟩, by simp [PyData.eqv]⟩
theorem strs_flat (ys : List Str) : (ys.map PyData.str).all flatD = true := by
  rw [List.all_eq_true]
  intro e he
  obtain ⟨y, _, rfl⟩ := List.mem_map.mp he
  rfl
theorem shB (b : Bool) : SeqAt.shaped (.bool b) = true := by cases b <;> rfl
theorem ev_notNB {K : PySem.W.Frag} {W : Wd} {δ : List Sl} {g : W.G} {te : TE} {l r : PyData} (h : EvS K W te δ g (is (.dat (btw l r)) g)) : EvD K W (tNotN te) δ g (.bool (Z.B l r)) := by
  cases hb : Z.B l r with
  | true =>
    have e : btw l r = .tuple [(fnd 10 l r ([], [])).1.t, stepsD (fnd 10 l r ([], [])).2.1, stepsD (fnd 10 l r ([], [])).2.2] := by
      unfold btw
      rw [if_pos hb]
    rw [e] at h
    exact ev_notN h
  | false =>
    have e : btw l r = .none := by
      unfold btw
      rw [if_neg (by rw [hb]; decide)]
    rw [e] at h
    exact ev_notN h
theorem trueMap (ds : List PyData) : (ds.map fun _ => PyData.bool true) = (ds.map fun _ => true).map PyData.bool := by
  rw [List.map_map]
  rfl
theorem Dv.deriv {S : List St3} (h : Dv S) (hl : S.length ≤ 1000000) : Deriv S := ⟨h.ok, fun s hs => (h.tt s hs).1, fun s hs => (h.tt s hs).2, hl⟩
abbrev errT : PyData := .tuple [.none, .str INV]
theorem errFit : Fit 2 (.list [errT, errT]) := by
  have h : Fit 1 errT := Fit.tuple fun d hd => by
    simp only [List.mem_cons, List.not_mem_nil, or_false] at hd
    rcases hd with rfl | rfl
    · exact Fit.none
    · exact fit_s
  refine Fit.list fun d hd => ?_
  simp only [List.mem_cons, List.not_mem_nil, or_false, or_self] at hd
  subst hd
  exact h
theorem btw_ab : btw (.str "a") (.str "b") = .none := by
  have h : B (.str "a") (.str "b") = false := by decide +kernel
  unfold btw
  rw [h]
  rfl
theorem ok_law (Bt : Blt mg) (C : Cns K mg) (Er : ErrF K mg) (Br : BrF K mg CB CF) (M : Brg K CB CF) (D_between : Def K mg "between" s_between p_between) (D_need_term : Def K mg "need_term" s_need_term p_need_term) (D_is_term : DefD K mg "is_term" s_is_term p_is_term dv_is_term)
    (D_measured : Def K mg "measured" s_measured p_measured) (D_is_letter : Def K mg "is_letter" s_is_letter p_is_letter) (D_text_of : Def K mg "text_of" s_text_of p_text_of)
    (D_L_source : Def K mg "_law_source" s_L_source p_L_source) (D_L_take : Def K mg "_law_take" s_L_take p_L_take) (D_L_pick : Def K mg "_law_pick" s_L_pick p_L_pick) (D_L_mixed : Def K mg "_law_mixed" s_L_mixed p_L_mixed) (D_L_signs : Def K mg "_law_signs" s_L_signs p_L_signs)
    (D_L_term : Def K mg "_law_term" s_L_term p_L_term) (D_L_same_word : Def K mg "_law_same_word" s_L_same_word p_L_same_word) (D_L_rewritten : Def K mg "_law_rewritten" s_L_rewritten p_L_rewritten) (D_L_two_words : Def K mg "_law_two_words" s_L_two_words p_L_two_words) (D_L_odd : Def K mg "_law_odd" s_L_odd p_L_odd) (D_L_nest : Def K mg "_law_nest" s_L_nest p_L_nest)
    (D_L_fits : Def K mg "_law_fits" s_L_fits p_L_fits) (D_L_measure : Def K mg "_law_measure" s_L_measure p_L_measure) (D_L_swap : Def K mg "_law_swap" s_L_swap p_L_swap) (D_L_below : Def K mg "_law_below" s_L_below p_L_below) (D_L_below_now : Def K mg "_law_below_now" s_L_below_now p_L_below_now) (D_L_text : Def K mg "_law_text" s_L_text p_L_text)
    (D_L_long : Def K mg "_law_long" s_L_long p_L_long) (D_L_leaves : Def K mg "_law_leaves" s_L_leaves p_L_leaves) (D_L_steps_right : Def K mg "_law_steps_right" s_L_steps_right p_L_steps_right) (D_L_reason_right : Def K mg "_law_reason_right" s_L_reason_right p_L_reason_right) (D_L_many_right : Def K mg "_law_many_right" s_L_many_right p_L_many_right) (D_L_index : Def K mg "_law_index" s_L_index p_L_index)
    (D_L_signs_in : Def K mg "_law_signs_in" s_L_signs_in p_L_signs_in) (D_L_walk : Def K mg "_law_walk" s_L_walk p_L_walk) (D_L_parts : Def K mg "_law_parts" s_L_parts p_L_parts) (D_L_call : Def K mg "_law_call" s_L_call p_L_call)
    (kb : KBinds K D_between.fd p_between ["right", "left"] gRL gRLV) {fL c Pt : Addr} {oc dV kV doc pm ct : Value} {od an : Option Addr} {osl : Array (Option Value)}
    (lk : K.lookup fL = some ⟨oc, od, .func (PySem.W.fnOf "law" "law" (defArgs s_law) (defBody s_law) (defScope s_law) dV kV doc pm an (.ref c) ct), osl⟩) (hcd : PySem.W.codeIn K (.ref c) "law" = true) (TB : LamX.TabB base mg c Pt) :
    FnOk P w K mg base CX0 38 fL (PySem.W.fnOf "law" "law" (defArgs s_law) (defBody s_law) (defScope s_law) dV kV doc pm an (.ref c) ct) p_law (sp_law K Pt) := by
  have B := Bt
  have G_L_source : FnOk P w K mg base CX0 1 D_L_source.f D_L_source.fd p_L_source (sp_L_source K) := ok_L_source Bt D_L_source
  have G_L_take : FnOk P w K mg base CX0 1 D_L_take.f D_L_take.fd p_L_take (sp_L_take K) := ok_L_take Bt D_L_take
  have G_L_pick : FnOk P w K mg base CX0 2 D_L_pick.f D_L_pick.fd p_L_pick (sp_L_pick K) := ok_L_pick Bt D_L_pick D_L_take
  have G_L_two_words : FnOk P w K mg base CX0 24 D_L_two_words.f D_L_two_words.fd p_L_two_words (sp_L_two K) := ok_L_two Bt D_L_two_words D_L_signs D_L_term D_L_rewritten D_L_same_word D_L_mixed D_L_pick D_L_take D_L_fits D_L_measure
  have G_L_fits : FnOk P w K mg base CX0 22 D_L_fits.f D_L_fits.fd p_L_fits (sp_L_fits K) := ok_L_fits Bt D_L_fits D_L_measure
  have G_L_swap : FnOk P w K mg base CX0 6 D_L_swap.f D_L_swap.fd p_L_swap (sp_L_swap K 5) := ok_L_swap Bt D_L_swap 5
  have G_between : FnOk P w K mg base CX0 35 D_between.f D_between.fd p_between (sp_between K) := ok_between Bt C Er Br M D_between D_need_term D_is_term D_measured D_is_letter D_text_of
  have G_betweenX : FnOk P w K mg base (L2.CX P w) 35 D_between.f D_between.fd p_between (sp_betweenX K Er.cI) := ok_betweenX Bt C Er Br M D_between D_need_term D_is_term D_measured D_is_letter D_text_of
  have G_L_below : FnOk P w K mg base CX0 32 D_L_below.f D_L_below.fd p_L_below (sp_L_below K 10) := ok_L_below Bt D_L_below D_L_below_now D_L_text 10
  have G_L_long : FnOk P w K mg base CX0 10 D_L_long.f D_L_long.fd p_L_long (sp_L_long K 9) := ok_L_long Bt D_L_long 9
  have G_L_leaves : FnOk P w K mg base CX0 10 D_L_leaves.f D_L_leaves.fd p_L_leaves (sp_L_leaves K 9) := ok_L_leaves Bt D_L_leaves 9
  have G_L_steps_right : FnOk P w K mg base CX0 11 D_L_steps_right.f D_L_steps_right.fd p_L_steps_right (sp_L_steps K) := ok_L_steps Bt D_L_steps_right D_L_long D_L_reason_right D_L_many_right D_L_index
  have G_L_signs_in : FnOk P w K mg base CX0 11 D_L_signs_in.f D_L_signs_in.fd p_L_signs_in (sp_L_signs K) := ok_L_signs_in Bt D_L_signs_in D_L_walk D_L_parts
  have G_L_odd : FnOk P w K mg base CX0 3 D_L_odd.f D_L_odd.fd p_L_odd (sp_L_odd K) := ok_L_odd Bt D_L_odd D_L_nest D_L_pick D_L_take
  obtain ⟨ocC, odC, kVC, docC, pmC, anC, cdC, ctC, oslC, eC, lkC, hcC⟩ := D_L_call.fn.ex
  have bC := D_L_call.b
  rw [eC] at lkC bC
  refine fn_of lk hcd sc_law (fun vs H Q E ⟨a, _, h, _⟩ => by rw [h]; rfl) fun A outer s H vs Q E hr ⟨a, ns, hv, ha, hz, hp, q⟩ => ⟨_, PSs.nox (pss_cons (ps_set (i := 1) sc_law.nd rfl (by first | exact Or.inl rfl | exact Or.inr rfl) (pe_call G_L_source (hr.mono (by omega)) rfl D_L_source.g D_L_source.fn.kp D_L_source.b .nil pass0 (pa_cons (pv 0) pa_nil)))
  (pss_cons (ps_for PassesOwn.never rfl (pi_range1 (by rfl) B.range (pa_cons pe_int pa_nil)) (pg_name (i := 2) sc_law.nd rfl (by first | exact Or.inl rfl | exact Or.inr rfl)) (pss_cons (ps_asg (pe_call G_L_two_words (hr.mono (by omega)) rfl D_L_two_words.g D_L_two_words.fn.kp D_L_two_words.b .nil pass0 (pa_cons (pv 1) pa_nil)) (pg_tup rfl (pgs_cons (pg_name (i := 3) sc_law.nd rfl (by first | exact Or.inl rfl | exact Or.inr rfl)) (pgs_cons (pg_name (i := 4) sc_law.nd rfl (by first | exact Or.inl rfl | exact Or.inr rfl)) pgs_nil))))
  (pss_cons (ps_set (i := 5) sc_law.nd rfl (by first | exact Or.inl rfl | exact Or.inr rfl) (pe_call G_L_take (hr.mono (by omega)) rfl D_L_take.g D_L_take.fn.kp D_L_take.b .nil pass0 (pa_cons (pv 1) (pa_cons pe_int pa_nil))))
  (pss_cons (ps_set (i := 6) sc_law.nd rfl (by first | exact Or.inl rfl | exact Or.inr rfl) (pe_disp (pps_cons (pe_call G_L_pick (hr.mono (by omega)) rfl D_L_pick.g D_L_pick.fn.kp D_L_pick.b .nil pass0 (pa_cons (pv 1) (pa_cons (pe_callTy w_listStr (by rfl) B.list_ bt_list (pa_cons pe_str pa_nil)) pa_nil))) (pe_call G_L_pick (hr.mono (by omega)) rfl D_L_pick.g D_L_pick.fn.kp D_L_pick.b .nil pass0 (pa_cons (pv 1) (pa_cons (pe_callTy w_listStr (by rfl) B.list_ bt_list (pa_cons pe_str pa_nil)) pa_nil))) pps_nil) (by rfl) (by rfl) (by intro z; cases z) (by decide)))
  (pss_cons (ps_if (PW.pt (pw_and (pt_cmpR (w_eqD K hr.units) (pv 5) pe_int (nomark _)) (pw_and1 (pt_val (pe_call G_L_fits (hr.mono (by omega)) rfl D_L_fits.g D_L_fits.fn.kp D_L_fits.b .nil pass0 (pa_cons (pe_tup (pa_cons pe_str (pa_cons (pv 3) (pa_cons (pv 4) pa_nil)))) pa_nil)))))) (pss_one (ps_set (i := 4) sc_law.nd rfl (by first | exact Or.inl rfl | exact Or.inr rfl) (pe_tup (pa_cons pe_str (pa_cons (pe_call G_L_swap (hr.mono (by omega)) rfl D_L_swap.g D_L_swap.fn.kp D_L_swap.b .nil pass0 (pa_cons (pv 4) (pa_cons (pv 6) pa_nil))) (pa_cons (pv 3) pa_nil)))))) pss_nil)
  (pss_cons (ps_if (PW.pt (pw_and (pt_cmpR (w_eqD K hr.units) (pv 5) pe_int (nomark _)) (pw_and1 (pt_val (pe_call G_L_fits (hr.mono (by omega)) rfl D_L_fits.g D_L_fits.fn.kp D_L_fits.b .nil pass0 (pa_cons (pe_tup (pa_cons pe_str (pa_cons (pv 3) (pa_cons (pv 4) pa_nil)))) pa_nil)))))) (pss_one (ps_set (i := 3) sc_law.nd rfl (by first | exact Or.inl rfl | exact Or.inr rfl) (pe_tup (pa_cons pe_str (pa_cons (pv 4) (pa_cons (pe_call G_L_swap (hr.mono (by omega)) rfl D_L_swap.g D_L_swap.fn.kp D_L_swap.b .nil pass0 (pa_cons (pv 3) (pa_cons (pv 6) pa_nil))) pa_nil)))))) pss_nil)
  (pss_cons (ps_set (i := 7) sc_law.nd rfl (by first | exact Or.inl rfl | exact Or.inr rfl) (pe_call G_between (hr.mono (by omega)) rfl D_between.g D_between.fn.kp D_between.b .nil pass0 (pa_cons (pv 3) (pa_cons (pv 4) pa_nil))))
  (pss_cons (ps_if (pt_cmpR (w_neD K hr.units) (pe_cmp (pc_notN (pv 7)) rfl) (pe_call G_L_below (hr.mono (by omega)) rfl D_L_below.g D_L_below.fn.kp D_L_below.b .nil pass0 (pa_cons (pv 3) (pa_cons (pv 4) (pa_cons pe_dnewK pa_nil)))) (nomark _)) (pss_one (ps_ret pe_bl)) pss_nil)
  (pss_cons (ps_if (pt_cmp (pc_notN (pv 7)) rfl) (pss_cons (ps_asg (pv 7) (pg_tup rfl (pgs_cons (pg_name (i := 8) sc_law.nd rfl (by first | exact Or.inl rfl | exact Or.inr rfl)) (pgs_cons (pg_name (i := 9) sc_law.nd rfl (by first | exact Or.inl rfl | exact Or.inr rfl)) (pgs_cons (pg_name (i := 10) sc_law.nd rfl (by first | exact Or.inl rfl | exact Or.inr rfl)) pgs_nil)))))
  (pss_cons (ps_if (PW.pt (pw_or (pt_not (pt_val (pe_call G_L_long (hr.mono (by omega)) rfl D_L_long.g D_L_long.fn.kp D_L_long.b .nil pass0 (pa_cons (pv 8) (pa_cons pe_int pa_nil))))) (pw_or1 (pt_cmpR op_gt (pe_call G_L_leaves (hr.mono (by omega)) rfl D_L_leaves.g D_L_leaves.fn.kp D_L_leaves.b .nil pass0 (pa_cons (pv 8) pa_nil)) pe_int (nomark _))))) (pss_one (ps_ret pe_bl)) pss_nil)
  (pss_cons (ps_if (PW.pt (pw_or (pt_not (pt_val (pe_call G_L_steps_right (hr.mono (by omega)) rfl D_L_steps_right.g D_L_steps_right.fn.kp D_L_steps_right.b .nil pass0 (pa_cons (pe_lst pa_nil) (pa_cons (pe_tup (pa_cons (pv 3) (pa_cons (pv 8) pa_nil))) (pa_cons (pv 9) pa_nil)))))) (pw_or1 (pt_not (pt_val (pe_call G_L_steps_right (hr.mono (by omega)) rfl D_L_steps_right.g D_L_steps_right.fn.kp D_L_steps_right.b .nil pass0 (pa_cons (pe_lst pa_nil) (pa_cons (pe_tup (pa_cons (pv 8) (pa_cons (pv 4) pa_nil))) (pa_cons (pv 10) pa_nil))))))))) (pss_one (ps_ret pe_bl)) pss_nil)
  (pss_cons (ps_set (i := 11) sc_law.nd rfl (by first | exact Or.inl rfl | exact Or.inr rfl) (pe_lc (own := [("_law_sign", 13)]) (g := gName 13) (by rfl) sc_law.nd (pi_list (pe_call G_L_signs_in (hr.mono (by omega)) rfl D_L_signs_in.g D_L_signs_in.fn.kp D_L_signs_in.b .nil pass0 (pa_cons (pv 3) pa_nil))) (blkOk_by (N := n_law) (sc := defScope s_law) (by decide +kernel)) (fun _ _ _ _ _ => (pg_name (i := 13) sc_law.nd rfl (by first | exact Or.inl rfl | exact Or.inr rfl))) (fun _ _ _ _ _ => (pts_one (pt_cmpR (w_in K) (pv 13) (pe_call G_L_signs_in (hr.mono (by omega)) rfl D_L_signs_in.g D_L_signs_in.fn.kp D_L_signs_in.b .nil pass0 (pa_cons (pv 4) pa_nil)) (by rfl)))) (fun _ _ _ _ _ => (pv 13))))
  (pss_one (ps_if (PW.pt (pw_or (pt_not (pt_val (pe_callB (w_all K rfl) (by rfl) B.all bt_all (pa_cons (pe_lc (own := [("_law_sign", 13)]) (g := gName 13) (tt := tYes) (by rfl) sc_law.nd (pi_list (pe_call G_L_signs_in (hr.mono (by omega)) rfl D_L_signs_in.g D_L_signs_in.fn.kp D_L_signs_in.b .nil pass0 (pa_cons (pv 8) pa_nil))) (blkOk_by (N := n_law) (sc := defScope s_law) (by decide +kernel)) (fun _ _ _ _ _ => (pg_name (i := 13) sc_law.nd rfl (by first | exact Or.inl rfl | exact Or.inr rfl))) (fun _ _ _ _ _ => pts_nil) (fun _ _ _ _ _ => (pe_cmpR (w_in K) (pv 13) (pv 11) (by rfl)))) pa_nil)))) (pw_or1 (pt_cmpR (w_neD K hr.units) (pe_callK0 G_between (hr.mono (by omega)) rfl D_between.g D_between.fn.kp kb pass0 (pk_cons (pv 4) (pk_cons (pv 3) pk_nil))) (pv 7) (nomark _))))) (pss_one (ps_ret pe_bl)) pss_nil)))))) pss_nil)
  (pss_cons (ps_set (i := 12) sc_law.nd rfl (by first | exact Or.inl rfl | exact Or.inr rfl) (pe_call G_L_odd (hr.mono (by omega)) rfl D_L_odd.g D_L_odd.fn.kp D_L_odd.b .nil pass0 (pa_cons (pv 1) (pa_cons (pv 3) pa_nil))))
  (pss_one (ps_if (pt_cmpR (w_neD K hr.units) (pe_lst (pa_cons (lam_call (T := [(Pt, lamQ)]) (TT := TTc K Er.cI) (Ng := n_L_call) (k := 35) (t := fun E => tCall (sp_betweenX K Er.cI) [] E (tCons (tVar 12) (tCons (tVar 3) tNil))) rfl D_L_call.g D_L_call.fn.kp lkC hcC bC sc_L_call rfl (Or.inl rfl) (call_gives Er rfl rfl) TB rfl List.mem_cons_self (fun p hp _ => by cases hp with | head => rfl | tail _ z => cases z) (hr.mono (by omega)) (LamX.lamS_by (sc := defScope s_law) (by decide +kernel)) rfl (fun _ _ _ _ _ => rfl) (fun A outer s H E f c' hr2 => pe_call G_betweenX hr2 rfl D_between.g D_between.fn.kp D_between.b .nil (passes_call (takes_of rfl rfl rfl rfl) (fun _ _ _ _ h => h)) (pa_cons (pv 12) (pa_cons (pv 3) pa_nil)))) (pa_cons (lam_call (T := [(Pt, lamQ)]) (TT := TTc K Er.cI) (Ng := n_L_call) (k := 35) (t := fun E => tCall (sp_betweenX K Er.cI) [] E (tCons (tVar 3) (tCons (tVar 12) tNil))) rfl D_L_call.g D_L_call.fn.kp lkC hcC bC sc_L_call rfl (Or.inl rfl) (call_gives Er rfl rfl) TB rfl List.mem_cons_self (fun p hp _ => by cases hp with | head => rfl | tail _ z => cases z) (hr.mono (by omega)) (LamX.lamS_by (sc := defScope s_law) (by decide +kernel)) rfl (fun _ _ _ _ _ => rfl) (fun A outer s H E f c' hr2 => pe_call G_betweenX hr2 rfl D_between.g D_between.fn.kp D_between.b .nil (passes_call (takes_of rfl rfl rfl rfl) (fun _ _ _ _ h => h)) (pa_cons (pv 3) (pa_cons (pv 12) pa_nil)))) pa_nil))) (pe_op op_rep (pe_lst (pa_cons (pe_tup (pa_cons pe_non (pa_cons pe_str pa_nil))) pa_nil)) pe_int) (nomark _)) (pss_one (ps_ret pe_bl)) pss_nil))))))))))))
  (pss_one (ps_ret (pe_cmp (pc_isN (pe_call G_between (hr.mono (by omega)) rfl D_between.g D_between.fn.kp D_between.b .nil pass0 (pa_cons pe_str (pa_cons pe_str pa_nil)))) rfl))))), ?_⟩
  subst hv
  refine asgName ⟨_, rfl, a, ns, rfl, ha, hz, fun s c' cs H' sm hs hc ne hl e1 e2 => ?_⟩
  show tSeq _ _ _ _ _
  have npt : Pt ≠ s := fun z => by rw [z, hs] at hp; cases hp
  have npc : Pt ≠ c' := fun z => by rw [z, hc] at hp; cases hp
  have hp' : H' Pt = some (.tbl #[]) := sm _ _ hp
  let x : SI := { N := fun b => b = s ∨ b = c' ∨ b = Pt, src := s, cells := c', cs := cs, hS := .inl rfl, hC := .inr (.inl rfl), ne := ne }
  let y : LI := { x := x, pt := Pt, q := lamQ, hP := .inr (.inr rfl), ns := npt }
  have iL : (WL y).I () H' := ⟨⟨(0, 0, 3818, 0), fun b n => by
    rcases n with n | n | n
    · subst n; exact ⟨_, e1⟩
    · subst n; exact ⟨_, e2⟩
    · subst n; exact ⟨_, hp'⟩, e2, e1, by decide, by decide⟩, fun p hq => by
    cases hq with
    | head => exact LamX.TabS.nil hp'
    | tail _ z => cases z⟩
  have fL : Fr K (WL y).N H' ((L2.start n_law [.ref a]).set 1 (some (.ref s))) [.no, .val (.ref s), .no, .no, .no, .no, .no, .no, .no, .no, .no, .no, .no, .no] := by
    refine ⟨rfl, fun i t ht hn => ?_⟩
    match i, ht with
    | 0, ht => cases ht; exact absurd rfl hn
    | 1, ht => cases ht; exact ⟨_, rfl, rfl⟩
    | 2, ht => cases ht; exact absurd rfl hn
    | 3, ht => cases ht; exact absurd rfl hn
    | 4, ht => cases ht; exact absurd rfl hn
    | 5, ht => cases ht; exact absurd rfl hn
    | 6, ht => cases ht; exact absurd rfl hn
    | 7, ht => cases ht; exact absurd rfl hn
    | 8, ht => cases ht; exact absurd rfl hn
    | 9, ht => cases ht; exact absurd rfl hn
    | 10, ht => cases ht; exact absurd rfl hn
    | 11, ht => cases ht; exact absurd rfl hn
    | 12, ht => cases ht; exact absurd rfl hn
    | 13, ht => cases ht; exact absurd rfl hn
  have emb : EmbS x (WL y) := EmbS.law y
  refine ExS.run0 (W := WL y) (g := ()) (D := { nx := fun _ H2 => Q .non H2, rt := Q }) (P := { nx := fun _ _ => False, rt := fun s _ => s = .dat (.bool true), bk := fun _ _ => False, ct := fun _ _ => False }) ?_ iL fL (fun v s' g' H2 e i r es => by
    subst es
    cases (show Da K _ H2 v (.bool true) from r)
    exact q H2) (fun _ _ z => z) (fun _ _ z => z) fun _ _ z => z
  clear iL fL e1 e2 hp' sm
  refine x_seqM (fun δ' g' => ∃ x2 x3 x4 x5 x6 x7 x8 x9 x10 x11 x12 x13, δ' = [.no, .val (.ref s), x2, x3, x4, x5, x6, x7, x8, x9, x10, x11, x12, x13]) (x_forR (n := 4) (av_one ev_int) (by decide) (fun i δ' g' => ∃ x2 x3 x4 x5 x6 x7 x8 x9 x10 x11 x12 x13, δ' = [.no, .val (.ref s), x2, x3, x4, x5, x6, x7, x8, x9, x10, x11, x12, x13]) ⟨_, _, _, _, _, _, _, _, _, _, _, _, rfl⟩ (fun i δ' g' hi hJ => ?_) fun δ' g' hJ => hJ) fun δ' g' h => ?_
  · obtain ⟨x2, x3, x4, x5, x6, x7, x8, x9, x10, x11, x12, x13, rfl⟩ := hJ
    refine gs_name (x_seq (x_asgG (ev_callD (av_one (ev_var rfl)) (rc_spS (β := Unit) emb () rfl trivial fun s' ⟨one, two, es, t1, t2⟩ => ?_))))
    subst es
    refine gs_tup rfl (gs_cons (gs_name (gs_cons (gs_name (gs_nil ?_)))))
    refine x_seq (x_asg (ev_callD (av_two (ev_var rfl) ev_int) (rc_take emb (m := 3) (by decide) fun way hway => ?_)))
    have pick : ∀ (δ : List Sl) (g : (WL y).G), δ[1]? = some (.val (.ref s)) → EvS K (WL y) (tCall (sp_L_pick K) [] E0 (tCons (tVar 1) (tCons (tCB rListStr (tCons (tC (.str "abcdefgh")) tNil)) tNil))) δ g fun s _ => ∃ z : Str, s = .dat (.str z) ∧ isLetS z = true := fun δ g h => ev_callD (av_two (ev_var h) (EvS.asD (ev_cb1 ev_str (rc_listStr (by decide))) (by rw [abc_signs]))) (rc_pick emb ⟨by rw [abc_len]; decide, by rw [abc_len]; decide⟩ fun d hd => by
      obtain ⟨z, hz, rfl⟩ := List.mem_map.mp hd
      exact ⟨z, rfl, mem_abc.mp hz⟩)
    refine x_seq (x_asg (ev_disp1 (pick _ _ rfl) (fun g' => pick _ g' rfl) fun ka kb' _ ha hb => ?_))
    clear pick
    refine x_seqM (fun δ' g' => ∃ two, isTerm two = true ∧ δ' = [.no, .val (.ref s), .dat (.int (i : Int)), .dat one, .dat two, .dat (.int (way : Nat)), .dat (.dict [(.str ka, .str kb')]), x7, x8, x9, x10, x11, x12, x13]) (x_ifD (b := decide ((way : Int) = 1) && isTerm (.tuple [.str BAR, one, two])) (tv_and (tv_way (ev_var rfl)) fun _ => tv_B (ev_callD (av_one (ev_tup (ds := [.str BAR, one, two]) (av_cons ev_str (av_two (ev_var rfl) (ev_var rfl))))) (rc_fits (two_T opB (isTerm_T t1).1 (isTerm_T t2).1) (by decide)))) (fun q => x_asg (EvS.to (ev_tup (ds := [.str BAR, swp 5 ka kb' two, one]) (av_cons ev_str (av_two (ev_callD (av_two (ev_var rfl) (ev_var rfl)) (rc_spP (two, ka, kb') rfl ⟨(isTerm_T t2).1, hb, Nat.le_trans (isTerm_T t2).2 (by decide)⟩ fun s e => ⟨e, rfl⟩)) (ev_var rfl)))) ⟨_, (two_swp opB hb (Bool.and_eq_true_iff.mp q).2).1, rfl⟩)) fun _ => x_next ⟨two, t2, rfl⟩) fun δ' g' h => ?_
    clear t2
    obtain ⟨two, t2, rfl⟩ := h
    refine x_seqM (fun δ' g' => ∃ one, isTerm one = true ∧ δ' = [.no, .val (.ref s), .dat (.int (i : Int)), .dat one, .dat two, .dat (.int (way : Nat)), .dat (.dict [(.str ka, .str kb')]), x7, x8, x9, x10, x11, x12, x13]) (x_ifD (b := decide ((way : Int) = 2) && isTerm (.tuple [.str AMP, one, two])) (tv_and (tv_way (ev_var rfl)) fun _ => tv_B (ev_callD (av_one (ev_tup (ds := [.str AMP, one, two]) (av_cons ev_str (av_two (ev_var rfl) (ev_var rfl))))) (rc_fits (two_T opA (isTerm_T t1).1 (isTerm_T t2).1) (by decide)))) (fun q => x_asg (EvS.to (ev_tup (ds := [.str AMP, two, swp 5 ka kb' one]) (av_cons ev_str (av_two (ev_var rfl) (ev_callD (av_two (ev_var rfl) (ev_var rfl)) (rc_spP (one, ka, kb') rfl ⟨(isTerm_T t1).1, hb, Nat.le_trans (isTerm_T t1).2 (by decide)⟩ fun s e => ⟨e, rfl⟩))))) ⟨_, (two_swp opA hb (Bool.and_eq_true_iff.mp q).2).2, rfl⟩)) fun _ => x_next ⟨one, t1, rfl⟩) fun δ' g' h => ?_
    clear t1
    obtain ⟨one, t1, rfl⟩ := h
    have T := TwoT.of t1 t2
    have s1 : shorts one = true := isT_shorts T.tl
    refine x_seq (x_asg (ev_callD (av_two (ev_var rfl) (ev_var rfl)) (rc_spP (one, two) rfl ⟨t1, t2⟩ fun s' e => ?_)))
    subst e
    refine x_seq (x_ifD (b := false) (TvS.as (tv_test (ev_opD (ev_notNB (l := one) (r := two) (ev_var rfl)) (ev_callBelow rfl rfl T (by decide)) (rv_neD (shB _) (shB _)))) (by rw [eqv_bb, beq_self_eq_true]; rfl)) (fun z => by cases z) fun _ => x_next ?_)
    refine x_seqM (fun δ' g' => ∃ x8 x9 x10 x11 x13, δ' = [.no, .val (.ref s), .dat (.int (i : Int)), .dat one, .dat two, .dat (.int (way : Nat)), .dat (.dict [(.str ka, .str kb')]), .dat (btw one two), x8, x9, x10, x11, x12, x13]) (x_ifD (b := Z.B one two) (tv_B (ev_notNB (l := one) (r := two) (ev_var rfl))) (fun hB => ?_) fun _ => x_next ⟨_, _, _, _, _, rfl⟩) fun δ' g' h => ?_
    · have F := T.found hB
      have L := T.len hB
      have M5 := T.mul
      have eb : btw one two = .tuple [(fnd 10 one two ([], [])).1.t, stepsD (fnd 10 one two ([], [])).2.1, stepsD (fnd 10 one two ([], [])).2.2] := by
        unfold btw
        rw [if_pos hB]
      generalize fnd 10 one two ([], []) = ff at F L eb
      obtain ⟨fo, A1, A2⟩ := ff
      obtain ⟨S1, w1, ea1, _⟩ := F.a1
      obtain ⟨S2, w2, ea2, _⟩ := F.a2
      have lvt := F.lvt
      dsimp only at ea1 ea2 L eb lvt
      refine x_seq (x_asgG (EvS.to (s := .dat (.tuple [fo.t, stepsD A1, stepsD A2])) (EvS.as (ev_var rfl) (congrArg Sl.dat eb)) (gs_tup rfl (gs_cons (gs_name (gs_cons (gs_name (gs_cons (gs_name (gs_nil ?_))))))))))
      refine x_seq (x_ifD (b := false) (TvS.as (tv_or (tv_not (tv_B (ev_callD (av_two (ev_var rfl) ev_int) (rc_spP (fo.t, 9) rfl ⟨Nat.le_refl 9, F.tT⟩ fun s e => ⟨e, rfl⟩)))) fun _ => tv_test (ev_opD (ev_callD (av_one (ev_var rfl)) (rc_spP fo.t rfl F.tT fun s e => ⟨e, rfl⟩)) ev_int rv_gt)) (by simp; omega)) (fun z => by cases z) fun _ => x_next ?_)
      refine x_seq (x_ifD (b := false) (TvS.as (tv_or (tv_not (tv_B (ev_callD (av_cons (ev_lst (ds := []) av_nil) (av_two (ev_tup (ds := [one, fo.t]) (av_two (ev_var rfl) (ev_var rfl))) (ev_var rfl))) (rc_spP (A1, ⟨one, fo.t, w1⟩) rfl ⟨F.d1.deriv (by show A1.length ≤ 1000000; omega), S1, ea1⟩ fun s e => ⟨e, rfl⟩)))) fun _ => tv_not (tv_B (ev_callD (av_cons (ev_lst (ds := []) av_nil) (av_two (ev_tup (ds := [fo.t, two]) (av_two (ev_var rfl) (ev_var rfl))) (ev_var rfl))) (rc_spP (A2, ⟨fo.t, two, w2⟩) rfl ⟨F.d2.deriv (by show A2.length ≤ 1000000; omega), S2, ea2⟩ fun s e => ⟨e, rfl⟩)))) rfl) (fun z => by cases z) fun _ => x_next ?_)
      refine x_seq (x_asg (ev_lcLS (P0 := fun ds => ∃ ys : List Str, ds = ys.map .str ∧ ∀ z, z ∈ ys ↔ sg one z) (ev_callD (av_one (ev_var rfl)) (rc_spP one rfl ⟨isT_mono T.tl (by decide), Nat.le_trans T.ll (by decide)⟩ fun s ⟨ys, es, hy, hl⟩ => ⟨rfl, _, es, ys, rfl, hy⟩)) fun ds tl' ⟨ys, eds, hy⟩ hd => ?_))
      subst eds
      refine ev_lcL hd (fun i acc _ => ∃ zs : List Str, acc = zs.map .str ∧ ∀ z, z ∈ zs ↔ z ∈ ys.take i ∧ sg two z) ⟨[], rfl, by simp⟩ (fun i d acc g' hi _ ⟨zs, ea, hz⟩ => ?_) fun acc g' _ _ ⟨zs, ea, hz⟩ => ?_
      · subst ea
        rw [List.getElem?_map] at hi
        obtain ⟨k, hk, rfl⟩ := Option.map_eq_some_iff.mp hi
        refine cg_name (by simp) (TvS.imp (P := fun b _ => b = true ↔ sg two k) (tv_testS (ev_op (ev_var rfl) fun s1 g1 ⟨a1, b1⟩ => EvS.imp (ev_callD (P := fun s _ => ∃ ys2 : List Str, s = .dat (.list (ys2.map .str)) ∧ ∀ z, z ∈ ys2 ↔ sg two z) (av_one (ev_var rfl)) (rc_spP two rfl ⟨isT_mono T.tr (by decide), Nat.le_trans T.lr (by decide)⟩ fun s ⟨ys2, es, h2, _⟩ => ⟨ys2, es, h2⟩)) fun s2 g2 ⟨ys2, es, h2⟩ => by
          subst a1; subst es
          exact RvS.imp (rv_inF (neg := false) rfl (strs_flat ys2) (.inr rfl)) fun s g ⟨e, _⟩ => ⟨_, e, any_strs.trans (h2 k)⟩)) fun b g3 hb3 => ⟨fun q => ?_, fun q => ?_⟩)
        · have hk2 := hb3.mp q
          refine EvS.to (ev_var rfl) ⟨.str k, rfl, rfl, zs ++ [k], by simp, fun z => ?_⟩
          rw [List.take_add_one, hk, List.mem_append, List.mem_append, hz z]
          constructor
          · rintro (⟨a, b⟩ | a)
            · exact ⟨.inl a, b⟩
            · have e : z = k := by simpa using a
              rw [e]
              exact ⟨.inr (by simp), hk2⟩
          · rintro ⟨a | a, b⟩
            · exact .inl ⟨a, b⟩
            · have e : z = k := by simpa using a
              exact .inr (by simp [e])
        · refine ⟨zs, rfl, fun z => ?_⟩
          rw [List.take_add_one, hk, List.mem_append, hz z]
          refine ⟨fun ⟨a, b⟩ => ⟨.inl a, b⟩, fun ⟨a, b⟩ => ⟨a.elim id fun a => ?_, b⟩⟩
          have e : z = k := by simpa using a
          rw [e] at b
          exact absurd (hb3.mpr b) (by rw [q]; decide)
      · subst ea
        rw [List.length_map, List.take_length] at hz
        refine x_ifD (b := false) (TvS.as (tv_or (a := false) (tv_not (a := true) (tv_B (EvS.imp (P := fun s _ => s = .dat (.bool true)) (ev_cbS (P1 := fun s _ => ∃ ds : List PyData, s = .dat (.list (ds.map fun _ => PyData.bool true))) (ev_lcLS (P0 := fun ds => ∃ ys : List Str, ds = ys.map .str ∧ ∀ z, z ∈ ys ↔ sg fo.t z) (ev_callD (av_one (ev_var rfl)) (rc_spP fo.t rfl ⟨F.tT, by omega⟩ fun s ⟨ys, es, hy, hl⟩ => ⟨rfl, _, es, ys, rfl, hy⟩)) fun ds tl' ⟨ys2, eds, hy2⟩ hd2 => EvS.imp (ev_lcLs (fun _ => .bool true) hd2 fun d hd3 => ⟨rfl, fun g' => cg_name (by simp) ?_⟩) fun s g' e => ⟨_, e⟩) fun s g1 ⟨ds, es⟩ => by
          subst es
          rw [trueMap]
          exact RcS.imp rc_all fun s g2 ⟨e, _⟩ => by rw [e]; simp) fun s g' e => ⟨e, rfl⟩))) fun _ => tv_test (ev_opD (ev_callRL rfl rfl (rc_spP (one, two) rfl ⟨t1, t2⟩ fun s e => ⟨e, rfl⟩)) (ev_var rfl) (rv_neD (Fit.shaped (btw_fit T) (by decide)) (Fit.shaped (btw_fit T) (by decide))))) (by rw [(fit_eqv (btw_fit T) (btw_fit T)).mpr rfl]; rfl)) (fun z => by cases z) fun _ => x_next ⟨_, _, _, _, _, rfl⟩
        subst eds
        obtain ⟨k, hk, rfl⟩ := List.mem_map.mp hd3
        refine EvS.imp (ev_opD (ev_var rfl) (ev_var rfl) (rv_inF (neg := false) rfl (strs_flat zs) (.inr rfl))) fun s g ⟨e, _⟩ => ?_
        rw [e]
        have hkz : k ∈ zs := (hz k).mpr ⟨(hy k).mpr (F.sgl k ((hy2 k).mp hk)), F.sgr k ((hy2 k).mp hk)⟩
        have hany := any_strs.mpr hkz
        exact congrArg (fun b => Sl.dat (.bool b)) hany
    · obtain ⟨x8, x9, x10, x11, x13, rfl⟩ := h
      refine x_seq (x_asg (ev_callD (av_two (ev_var rfl) (ev_var rfl)) (rc_spS emb one rfl t1 fun s' ⟨d, es, d1, d2⟩ => ?_)))
      subst es
      exact x_ifD (b := false) (TvS.as (tv_test (ev_opD (ev_lst (ds := [errT, errT]) (av_two (ev_lam rfl rfl d2 s1 (by rw [d1]; rfl)) (ev_lam rfl rfl s1 d2 (by rw [d1, Bool.and_false])))) (ev_opD (ev_lst (ds := [errT]) (av_one (ev_tup (ds := [.none, .str INV]) (av_two ev_non ev_str)))) ev_int (rv_rep2 (by decide))) (rv_neD (Fit.shaped errFit (by decide)) (Fit.shaped errFit (by decide))))) (by show (!(PyData.list [errT, errT]).eqv (PyData.list [errT, errT])) = false; rw [(fit_eqv errFit errFit).mpr rfl]; rfl)) (fun z => by cases z) fun _ => x_next ⟨_, _, _, _, _, _, _, _, _, _, _, _, rfl⟩
  · obtain ⟨x2, x3, x4, x5, x6, x7, x8, x9, x10, x11, x12, x13, rfl⟩ := h
    exact x_ret (EvS.to (ev_isN (d := .none) (ev_callD (av_two ev_str ev_str) (rc_spP (.str "a", .str "b") rfl ⟨by decide +kernel, by decide +kernel⟩ fun s e => ⟨by rw [e]; exact congrArg Sl.dat btw_ab, rfl⟩))) rfl)
end
end Z
/-! the head: facts by names, the run -/
namespace Z
open PySem PySem.Spec PyProof.Rows L2
def d_is_letter : He.DefD := ⟨("is_letter", none), "is_letter", "is_letter", defArgs s_is_letter, defBody s_is_letter, defScope s_is_letter, [], []⟩
def d_measured : He.DefD := ⟨("measured", none), "measured", "measured", defArgs s_measured, defBody s_measured, defScope s_measured, [], []⟩
def d_is_term : He.DefD := ⟨("is_term", none), "is_term", "is_term", defArgs s_is_term, defBody s_is_term, defScope s_is_term, [], [("max_depth", .int 5), ("max_size", .int 24)]⟩
def d_need_term : He.DefD := ⟨("need_term", none), "need_term", "need_term", defArgs s_need_term, defBody s_need_term, defScope s_need_term, [], []⟩
def d_text_of : He.DefD := ⟨("text_of", none), "text_of", "text_of", defArgs s_text_of, defBody s_text_of, defScope s_text_of, [], []⟩
def d_between : He.DefD := ⟨("between", none), "between", "between", defArgs s_between, defBody s_between, defScope s_between, [], []⟩
def d_L_source : He.DefD := ⟨("_law_source", none), "_law_source", "_law_source", defArgs s_L_source, defBody s_L_source, defScope s_L_source, [], []⟩
def d_L_take : He.DefD := ⟨("_law_take", none), "_law_take", "_law_take", defArgs s_L_take, defBody s_L_take, defScope s_L_take, [], []⟩
def d_L_pick : He.DefD := ⟨("_law_pick", none), "_law_pick", "_law_pick", defArgs s_L_pick, defBody s_L_pick, defScope s_L_pick, [], []⟩
def d_L_mixed : He.DefD := ⟨("_law_mixed", none), "_law_mixed", "_law_mixed", defArgs s_L_mixed, defBody s_L_mixed, defScope s_L_mixed, [], []⟩
def d_L_call : He.DefD := ⟨("_law_call", none), "_law_call", "_law_call", defArgs s_L_call, defBody s_L_call, defScope s_L_call, [], []⟩
def d_L_parts : He.DefD := ⟨("_law_parts", none), "_law_parts", "_law_parts", defArgs s_L_parts, defBody s_L_parts, defScope s_L_parts, [], []⟩
def d_L_text : He.DefD := ⟨("_law_text", none), "_law_text", "_law_text", defArgs s_L_text, defBody s_L_text, defScope s_L_text, [], []⟩
def d_L_leaves : He.DefD := ⟨("_law_leaves", none), "_law_leaves", "_law_leaves", defArgs s_L_leaves, defBody s_L_leaves, defScope s_L_leaves, [], []⟩
def d_L_walk : He.DefD := ⟨("_law_walk", none), "_law_walk", "_law_walk", defArgs s_L_walk, defBody s_L_walk, defScope s_L_walk, [], []⟩
def d_L_signs_in : He.DefD := ⟨("_law_signs_in", none), "_law_signs_in", "_law_signs_in", defArgs s_L_signs_in, defBody s_L_signs_in, defScope s_L_signs_in, [], []⟩
def d_L_swap : He.DefD := ⟨("_law_swap", none), "_law_swap", "_law_swap", defArgs s_L_swap, defBody s_L_swap, defScope s_L_swap, [], []⟩
def d_L_term : He.DefD := ⟨("_law_term", none), "_law_term", "_law_term", defArgs s_L_term, defBody s_L_term, defScope s_L_term, [], []⟩
def d_L_signs : He.DefD := ⟨("_law_signs", none), "_law_signs", "_law_signs", defArgs s_L_signs, defBody s_L_signs, defScope s_L_signs, [], []⟩
def d_L_index : He.DefD := ⟨("_law_index", none), "_law_index", "_law_index", defArgs s_L_index, defBody s_L_index, defScope s_L_index, [], []⟩
def d_L_long : He.DefD := ⟨("_law_long", none), "_law_long", "_law_long", defArgs s_L_long, defBody s_L_long, defScope s_L_long, [], []⟩
def d_L_many_right : He.DefD := ⟨("_law_many_right", none), "_law_many_right", "_law_many_right", defArgs s_L_many_right, defBody s_L_many_right, defScope s_L_many_right, [], []⟩
def d_L_reason_right : He.DefD := ⟨("_law_reason_right", none), "_law_reason_right", "_law_reason_right", defArgs s_L_reason_right, defBody s_L_reason_right, defScope s_L_reason_right, [], []⟩
def d_L_steps_right : He.DefD := ⟨("_law_steps_right", none), "_law_steps_right", "_law_steps_right", defArgs s_L_steps_right, defBody s_L_steps_right, defScope s_L_steps_right, [], []⟩
def d_L_below : He.DefD := ⟨("_law_below", none), "_law_below", "_law_below", defArgs s_L_below, defBody s_L_below, defScope s_L_below, [], []⟩
def d_L_below_now : He.DefD := ⟨("_law_below_now", none), "_law_below_now", "_law_below_now", defArgs s_L_below_now, defBody s_L_below_now, defScope s_L_below_now, [], []⟩
def d_L_measure : He.DefD := ⟨("_law_measure", none), "_law_measure", "_law_measure", defArgs s_L_measure, defBody s_L_measure, defScope s_L_measure, [], []⟩
def d_L_fits : He.DefD := ⟨("_law_fits", none), "_law_fits", "_law_fits", defArgs s_L_fits, defBody s_L_fits, defScope s_L_fits, [], []⟩
def d_L_odd : He.DefD := ⟨("_law_odd", none), "_law_odd", "_law_odd", defArgs s_L_odd, defBody s_L_odd, defScope s_L_odd, [], []⟩
def d_L_nest : He.DefD := ⟨("_law_nest", none), "_law_nest", "_law_nest", defArgs s_L_nest, defBody s_L_nest, defScope s_L_nest, [], []⟩
def d_L_same_word : He.DefD := ⟨("_law_same_word", none), "_law_same_word", "_law_same_word", defArgs s_L_same_word, defBody s_L_same_word, defScope s_L_same_word, [], []⟩
def d_L_rewritten : He.DefD := ⟨("_law_rewritten", none), "_law_rewritten", "_law_rewritten", defArgs s_L_rewritten, defBody s_L_rewritten, defScope s_L_rewritten, [], []⟩
def d_L_two_words : He.DefD := ⟨("_law_two_words", none), "_law_two_words", "_law_two_words", defArgs s_L_two_words, defBody s_L_two_words, defScope s_L_two_words, [], []⟩
def d_law : He.DefD := ⟨("law", none), "law", "law", defArgs s_law, defBody s_law, defScope s_law, [], []⟩
def d_FaultError_init : He.DefD := ⟨("FaultError", some "__init__"), "__init__", "FaultError.__init__", defArgs s_FaultError_init, defBody s_FaultError_init, defScope s_FaultError_init, [], []⟩
def d_InvalidTerm_init : He.DefD := ⟨("InvalidTerm", some "__init__"), "__init__", "InvalidTerm.__init__", defArgs s_InvalidTerm_init, defBody s_InvalidTerm_init, defScope s_InvalidTerm_init, [], []⟩
def d_Free_init : He.DefD := ⟨("Free", some "__init__"), "__init__", "Free.__init__", defArgs s_Free_init, defBody s_Free_init, defScope s_Free_init, [], []⟩
def d_Free_is_below : He.DefD := ⟨("Free", some "is_below"), "is_below", "Free.is_below", defArgs s_Free_is_below, defBody s_Free_is_below, defScope s_Free_is_below, [], []⟩
def d_Free_reason_for : He.DefD := ⟨("Free", some "reason_for"), "reason_for", "Free.reason_for", defArgs s_Free_reason_for, defBody s_Free_reason_for, defScope s_Free_reason_for, [], []⟩
def d_Bridge_init : He.DefD := ⟨("Bridge", some "__init__"), "__init__", "Bridge.__init__", defArgs s_Bridge_init, defBody s_Bridge_init, defScope s_Bridge_init, [], []⟩
def d_Bridge_noted : He.DefD := ⟨("Bridge", some "noted"), "noted", "Bridge.noted", defArgs s_Bridge_noted, defBody s_Bridge_noted, defScope s_Bridge_noted, [], []⟩
def d_Bridge_linked : He.DefD := ⟨("Bridge", some "linked"), "linked", "Bridge.linked", defArgs s_Bridge_linked, defBody s_Bridge_linked, defScope s_Bridge_linked, [], []⟩
def d_Bridge_found : He.DefD := ⟨("Bridge", some "found"), "found", "Bridge.found", defArgs s_Bridge_found, defBody s_Bridge_found, defScope s_Bridge_found, [], []⟩
def d_Bridge_over_left : He.DefD := ⟨("Bridge", some "over_left"), "over_left", "Bridge.over_left", defArgs s_Bridge_over_left, defBody s_Bridge_over_left, defScope s_Bridge_over_left, [], []⟩
def d_Bridge_over_right : He.DefD := ⟨("Bridge", some "over_right"), "over_right", "Bridge.over_right", defArgs s_Bridge_over_right, defBody s_Bridge_over_right, defScope s_Bridge_over_right, [], []⟩
def d_Bridge_through_part : He.DefD := ⟨("Bridge", some "through_part"), "through_part", "Bridge.through_part", defArgs s_Bridge_through_part, defBody s_Bridge_through_part, defScope s_Bridge_through_part, [], []⟩
def fnL1 : List He.DefD := [d_is_letter, d_measured, d_is_term, d_need_term, d_text_of, d_between, d_L_source, d_L_take, d_L_pick, d_L_mixed, d_L_call, d_L_parts, d_L_text, d_L_leaves, d_L_walk, d_L_signs_in, d_L_swap, d_L_term, d_L_signs, d_L_index, d_L_long, d_L_many_right, d_L_reason_right, d_L_steps_right, d_L_below]
def fnL2 : List He.DefD := [d_L_below_now, d_L_measure, d_L_fits, d_L_odd, d_L_nest, d_L_same_word, d_L_rewritten, d_L_two_words, d_law, d_FaultError_init, d_InvalidTerm_init, d_Free_init, d_Free_is_below, d_Free_reason_for, d_Bridge_init, d_Bridge_noted, d_Bridge_linked, d_Bridge_found, d_Bridge_over_left, d_Bridge_over_right, d_Bridge_through_part]
def fnL : List He.DefD := fnL1 ++ fnL2
def fa1 : List He.Fa := [.glo "is_letter", .glo "measured", .glo "is_term", .glo "need_term", .glo "text_of", .glo "between", .glo "_law_source", .glo "_law_take", .glo "_law_pick", .glo "_law_mixed", .glo "_law_call", .glo "_law_parts", .glo "_law_text", .glo "_law_leaves", .glo "_law_walk", .glo "_law_signs_in", .glo "_law_swap", .glo "_law_term", .glo "_law_signs", .glo "_law_index", .glo "_law_long", .glo "_law_many_right", .glo "_law_reason_right", .glo "_law_steps_right", .glo "_law_below", .glo "_law_below_now", .glo "_law_measure", .glo "_law_fits", .glo "_law_odd", .glo "_law_nest"]
def fa2 : List He.Fa := [.glo "_law_same_word", .glo "_law_rewritten", .glo "_law_two_words", .glo "law", .glo "FaultError", .glo "InvalidTerm", .glo "Missing", .glo "NothingLeft", .glo "Free", .glo "Bridge", .glo "OPERATORS"]
def fa3 : List He.Fa := [.free "isinstance", .free "len", .free "all", .free "any", .free "sum", .free "zip", .free "range", .free "sorted", .free "int", .free "str", .free "tuple", .free "list", .free "set", .free "bool", .free "dict", .free "ValueError", .str "LETTERS" LETTERS, .cls "Free", .cls "Bridge", .mkr "Free", .mkr "Bridge", .exm "InvalidTerm" "FaultError" true, .noat "Free" "known", .noat "Free" "steps", .noat "Free" "place", .noat "Bridge" "free", .noat "Bridge" "lower_steps", .noat "Bridge" "upper_steps", .noat "InvalidTerm" "code", .meth "Free" "is_below"]
def fa4 : List He.Fa := [.meth "Free" "reason_for", .meth "Bridge" "noted", .meth "Bridge" "linked", .meth "Bridge" "found", .meth "Bridge" "over_left", .meth "Bridge" "over_right", .meth "Bridge" "through_part"]
def faL : List He.Fa := (fa1 ++ fa2) ++ (fa3 ++ fa4)
def loo1 : List Str := ["_wall", "FaultError", "Missing", "InvalidTerm", "NothingLeft", "LETTERS", "OPERATORS", "MAX_DEPTH", "MAX_SIZE", "is_letter", "measured", "is_term", "need_term", "text_of", "Free", "Bridge", "between", "_law_source", "_law_take", "_law_pick", "_law_mixed", "_law_call", "_law_parts", "_law_text", "_law_leaves"]
def loo2 : List Str := ["_law_walk", "_law_signs_in", "_law_swap", "_law_term", "_law_signs", "_law_index", "_law_long", "_law_many_right", "_law_reason_right", "_law_steps_right", "_law_below", "_law_below_now", "_law_measure", "_law_fits", "_law_odd", "_law_nest", "_law_same_word", "_law_rewritten", "_law_two_words"]
def looL : List Str := loo1 ++ loo2
def oexB (K : PySem.W.Frag) (C : Addr) : Bool := match K.lookup C with
  | some ⟨.type t, _, .cls cd, sl⟩ => (match cd.mro, sl.toList with
    | .ref C' :: bm, [_, _, _, _, some (.builtin n), _] => (t == "type") && ((C' == C) && ((n == "ValueError.__new__") && (!cd.hasDel && (cd.hasDict && PySem.HandSPX.refsVE bm))))
    | _, _ => false)
  | _ => false
theorem oexB_ok {K : PySem.W.Frag} {C : Addr} (q : oexB K C = true) : ∃ nm q N bs bm sn sub ab col dd k0 k1 k2 k3 k5, K.lookup C = some (excClassObj nm q C N bs bm true sn sub ab col dd k0 k1 k2 k3 k5 "ValueError.__new__") ∧ PySem.HandSPX.refsVE bm = true := by
  unfold oexB at q
  split at q
  · rename_i t dd cd sl ho
    split at q
    · rename_i C' bm k0 k1 k2 k3 n k5 hm hs
      simp only [Bool.and_eq_true, beq_iff_eq, Bool.not_eq_true'] at q
      obtain ⟨rfl, rfl, rfl, hdel, hdict, hr⟩ := q
      obtain ⟨nm, bs, mro, ns, qn, hd, sn, sub, ab, col, del⟩ := cd
      dsimp only at hm hdel hdict
      subst hm hdel hdict
      have hsl : sl = #[k0, k1, k2, k3, some (.builtin "ValueError.__new__"), k5] := by
        obtain ⟨l⟩ := sl
        simp only at hs
        rw [hs]
      subst hsl
      exact ⟨nm, qn, ns, bs, bm, sn, sub, ab, col, dd, k0, k1, k2, k3, k5, ho, hr⟩
    · cases q
  · cases q
def cfB (a : Option PySem.W.CFound) (v : Value) : Bool := match a with
  | some (.val u) => decide (u = v)
  | _ => false
theorem cfB_ok {a : Option PySem.W.CFound} {v : Value} (h : cfB a v = true) : a = some (.val v) := by
  cases a with
  | none => cases h
  | some x =>
    cases x with
    | val u => rw [show u = v from of_decide_eq_true h]
    | get _ _ _ _ => cases h
def exB (K : PySem.W.Frag) : Bool :=
  oexB K (He.ga K "InvalidTerm") && (He.eqO (PySem.W.findIn K (.ref (He.ga K "InvalidTerm")) "__setattr__") (some (some (.builtin "object.__setattr__"))) && (xfB K (He.ga K "InvalidTerm") && (He.tupB K "OPERATORS" [.str "&", .str "|"] &&
  (He.eqO (PySem.W.findIn K (.ref (He.ga K "InvalidTerm")) "__init__") (some (some (.ref (He.ma K (He.ga K "InvalidTerm") "__init__")))) && (decide (PySem.W.typeIn K (.ref (He.ma K (He.ga K "InvalidTerm") "__init__")) = some (.type "function")) &&
  (PySem.W.readsIn K (He.ga K "FaultError") (.type "type") && (He.eqO (PySem.W.specialIn K (.ref (He.ga K "FaultError")) "__getattribute__") (some (some (.builtin "type.__getattribute__"))) &&
  (cfB (PySem.W.findCls K (.ref (He.ga K "FaultError")) (.type "type") "__init__") (.ref (He.ma K (He.ga K "FaultError") "__init__")) && cfB (PySem.W.findCls K (.type "ValueError") (.type "type") "__init__") (.builtin "ValueError.__init__")))))))))
def exB2 (K : PySem.W.Frag) : Bool := exB K && (PySem.W.keepIn K (.ref (He.ga K "InvalidTerm")) && (decide (PySem.W.subIn K (.ref (He.ga K "InvalidTerm")) (.type "BaseException") = some true) && decide (PySem.W.typeIn K (.ref (He.ga K "InvalidTerm")) = some (.type "type"))))
/-! ### the Hook: the objects that the names reach, and the interpreter's statics -/
def asY (n : Nat) (g : Addr → Option Obj) : List Addr := He.asD g n ++ [cStatics]
def obsY (n : Nat) (fa : List He.Fa) (fn : List He.DefD) (tf : List He.Defn) (ex : PySem.W.Frag → Bool) (g : Addr → Option Obj) : He.AlX :=
  (He.obsT fa fn [] (He.frT g (asY n g)), ex (He.frT g (asY n g)) && He.tabsB g tf (He.frT g (asY n g)))
theorem saysY_of {n : Nat} {fa : List He.Fa} {fn : List He.DefD} {tf : List He.Defn} {ex : PySem.W.Frag → Bool} {w : World} {h : Heap} (e : obsY n fa fn tf ex h.get? = He.valX fn [] w) : He.SaysX fa fn [] tf ex w h (He.frT h.get? (asY n h.get?)) := by
  have e1 : He.obsT fa fn [] (He.frT h.get? (asY n h.get?)) = He.valT fn [] w := congrArg (fun z : He.AlX => z.1) e
  have e2 : (ex (He.frT h.get? (asY n h.get?)) && He.tabsB h.get? tf (He.frT h.get? (asY n h.get?))) = true := congrArg (fun z : He.AlX => z.2) e
  obtain ⟨h1, h2⟩ := He.ba e2
  have key : ∀ p ∈ tf, PySem.W.codeHdIn (He.frT h.get? (asY n h.get?)) (He.cT (He.frT h.get? (asY n h.get?)) p).1 (He.cT (He.frT h.get? (asY n h.get?)) p).2 = true ∧ ∃ o, h.get? (He.cT (He.frT h.get? (asY n h.get?)) p).2 = some o ∧ He.emptyTab o = true := fun p hp => by
    obtain ⟨h3, h4⟩ := He.ba (List.all_eq_true.mp h2 p hp)
    refine ⟨h3, ?_⟩
    cases q : h.get? (He.cT (He.frT h.get? (asY n h.get?)) p).2 with
    | none =>
      rw [q] at h4
      cases h4
    | some o =>
      rw [q] at h4
      exact ⟨o, rfl, h4⟩
  exact ⟨e1, h1, fun p hp => (key p hp).1, fun p hp => let ⟨_, o, q, z⟩ := key p hp; He.frT_none q z, fun p hp => by
    obtain ⟨_, o, q, z⟩ := key p hp
    rw [q, He.emptyTab_eq z]⟩
def hookY (n : Nat) (fa : List He.Fa) (fn : List He.DefD) (tf : List He.Defn) (ex : PySem.W.Frag → Bool) : PySem.W.Hook where
  α := He.AlX
  obs := fun s => obsY n fa fn tf ex s.heap.get?
  val := fun w => He.valX fn [] w
  says := fun w h => ∃ K : PySem.W.Frag, K.In h ∧ He.SaysX fa fn [] tf ex w h K
  of := fun _ _ e => ⟨_, He.frT_in, saysY_of e⟩
  keeps := fun _ _ _ ⟨K, hK, c⟩ k => ⟨K, PySem.W.Frag.In.keeps hK k, ⟨c.t, c.more, c.hd, c.out, fun p hp => k _ _ (c.empty p hp)⟩⟩
theorem obsY_eq {n : Nat} {fa : List He.Fa} {fn : List He.DefD} {tf : List He.Defn} {ex : PySem.W.Frag → Bool} {g : Addr → Option Obj} {s : Shared} (h : ∀ a, g a = s.heap.get? a) : obsY n fa fn tf ex g = (hookY n fa fn tf ex).obs s := by
  have e : g = s.heap.get? := funext h
  rw [e] <;> rfl
abbrev tfL : List He.Defn := [("law", none)]
abbrev RL : PySem.W.OpenRow := PySem.W.OpenLaw.row PySem.Challenge.rw_fivefault_k46_whole_terms_between
abbrev hkL : PySem.W.Hook := hookY 5 faL fnL tfL exB2
def obL (s : PySem.W.SharedT) : He.AlX := obsY 5 faL fnL tfL exB2 (HandSHeadRun.getT s)
theorem obL_eq (s : PySem.W.SharedT) : obL s = hkL.obs s.abs := obsY_eq (HandSHeadRun.getT_eq s)
abbrev qL : Program := PySem.W.view RL.prog [50]
theorem runL (w : World) : HandSHeadRun.RunEq RL qL hkL obL 3400 looL w := by
  intro os
  kernel_rfl
end Z
/-! the facts handed to the walk -/
namespace Z
open PySem PySem.Spec PyProof.Rows L2
theorem kbOf {K : PySem.W.Frag} {f : Addr} {fd : FuncData} (F : FunD K "between" "between" (defArgs s_between) (defBody s_between) (defScope s_between) [] [] f fd) : KBinds K fd p_between ["right", "left"] gRL gRLV := by
  obtain ⟨oc, od, dV, kV, doc, pm, an, cdv, ct, osl, e, lk, hcd, hd, _⟩ := F.ex
  rcases hd with ⟨_, e2⟩ | ⟨e2, _⟩
  · subst e2
    subst e
    refine ⟨fun s us ws X hl => ?_, fun r1 r2 => ?_⟩
    · cases us with
      | cons a us => cases hl
      | nil =>
        match ws, hl with
        | [r, l], _ => exact .of_eq rfl
        | [], hl => cases hl
        | [_], hl => cases hl
        | _ :: _ :: _ :: _, hl => cases hl
    · cases r1 with
      | cons _ _ => exact .nil
      | nil =>
        cases r2 with
        | nil => exact .nil
        | cons a r2 =>
          cases r2 with
          | nil => exact .nil
          | cons b r2 =>
            cases r2 with
            | nil => exact .cons b (.cons a .nil)
            | cons _ _ => exact .nil
  · exact absurd rfl e2
theorem funOf {K : PySem.W.Frag} {x q : Str} {st : Stmt} {f : Addr} {fd : FuncData} {kws : List (Str × V)} (F : FunD K x q (defArgs st) (defBody st) (defScope st) [] kws f fd) : Fun K x q st f fd := by
  obtain ⟨oc, od, dV, kV, doc, pm, an, cdv, ct, osl, e, lk, hcd, hd, _⟩ := F.ex
  rcases hd with ⟨_, e2⟩ | ⟨e2, _⟩
  · subst e2
    exact ⟨⟨oc, od, kV, doc, pm, an, cdv, ct, osl, e, lk, hcd⟩, F.kp⟩
  · exact absurd rfl e2
theorem factsL {w : World} {K : PySem.W.Frag} {h : Heap} {mg : Str → Option Value} {fa : Addr} (X : K.In h) (G : h.Ns mainGlobals mg) (hfa : mg ("law" : Str) = some (.ref fa)) (cc : He.SaysX faL fnL [] tfL exB2 w h K) : LamX.LawAtS PySem.Challenge.rw_fivefault_k46_whole_terms_between w K CX0 38 63 "_law_script" mg fa h := by
  have c := cc.t.d
  have more := cc.more
  obtain ⟨fd0, F0⟩ := c.def_ 0 (d := d_is_letter) rfl
  obtain ⟨fd1, F1⟩ := c.def_ 1 (d := d_measured) rfl
  obtain ⟨fd2, F2⟩ := c.def_ 2 (d := d_is_term) rfl
  obtain ⟨fd3, F3⟩ := c.def_ 3 (d := d_need_term) rfl
  obtain ⟨fd4, F4⟩ := c.def_ 4 (d := d_text_of) rfl
  obtain ⟨fd5, F5⟩ := c.def_ 5 (d := d_between) rfl
  obtain ⟨fd6, F6⟩ := c.def_ 6 (d := d_L_source) rfl
  obtain ⟨fd7, F7⟩ := c.def_ 7 (d := d_L_take) rfl
  obtain ⟨fd8, F8⟩ := c.def_ 8 (d := d_L_pick) rfl
  obtain ⟨fd9, F9⟩ := c.def_ 9 (d := d_L_mixed) rfl
  obtain ⟨fd10, F10⟩ := c.def_ 10 (d := d_L_call) rfl
  obtain ⟨fd11, F11⟩ := c.def_ 11 (d := d_L_parts) rfl
  obtain ⟨fd12, F12⟩ := c.def_ 12 (d := d_L_text) rfl
  obtain ⟨fd13, F13⟩ := c.def_ 13 (d := d_L_leaves) rfl
  obtain ⟨fd14, F14⟩ := c.def_ 14 (d := d_L_walk) rfl
  obtain ⟨fd15, F15⟩ := c.def_ 15 (d := d_L_signs_in) rfl
  obtain ⟨fd16, F16⟩ := c.def_ 16 (d := d_L_swap) rfl
  obtain ⟨fd17, F17⟩ := c.def_ 17 (d := d_L_term) rfl
  obtain ⟨fd18, F18⟩ := c.def_ 18 (d := d_L_signs) rfl
  obtain ⟨fd19, F19⟩ := c.def_ 19 (d := d_L_index) rfl
  obtain ⟨fd20, F20⟩ := c.def_ 20 (d := d_L_long) rfl
  obtain ⟨fd21, F21⟩ := c.def_ 21 (d := d_L_many_right) rfl
  obtain ⟨fd22, F22⟩ := c.def_ 22 (d := d_L_reason_right) rfl
  obtain ⟨fd23, F23⟩ := c.def_ 23 (d := d_L_steps_right) rfl
  obtain ⟨fd24, F24⟩ := c.def_ 24 (d := d_L_below) rfl
  obtain ⟨fd25, F25⟩ := c.def_ 25 (d := d_L_below_now) rfl
  obtain ⟨fd26, F26⟩ := c.def_ 26 (d := d_L_measure) rfl
  obtain ⟨fd27, F27⟩ := c.def_ 27 (d := d_L_fits) rfl
  obtain ⟨fd28, F28⟩ := c.def_ 28 (d := d_L_odd) rfl
  obtain ⟨fd29, F29⟩ := c.def_ 29 (d := d_L_nest) rfl
  obtain ⟨fd30, F30⟩ := c.def_ 30 (d := d_L_same_word) rfl
  obtain ⟨fd31, F31⟩ := c.def_ 31 (d := d_L_rewritten) rfl
  obtain ⟨fd32, F32⟩ := c.def_ 32 (d := d_L_two_words) rfl
  obtain ⟨fd33, F33⟩ := c.def_ 33 (d := d_law) rfl
  obtain ⟨fd34, F34⟩ := c.def_ 34 (d := d_FaultError_init) rfl
  obtain ⟨fd35, F35⟩ := c.def_ 35 (d := d_InvalidTerm_init) rfl
  obtain ⟨fd36, F36⟩ := c.def_ 36 (d := d_Free_init) rfl
  obtain ⟨fd37, F37⟩ := c.def_ 37 (d := d_Free_is_below) rfl
  obtain ⟨fd38, F38⟩ := c.def_ 38 (d := d_Free_reason_for) rfl
  obtain ⟨fd39, F39⟩ := c.def_ 39 (d := d_Bridge_init) rfl
  obtain ⟨fd40, F40⟩ := c.def_ 40 (d := d_Bridge_noted) rfl
  obtain ⟨fd41, F41⟩ := c.def_ 41 (d := d_Bridge_linked) rfl
  obtain ⟨fd42, F42⟩ := c.def_ 42 (d := d_Bridge_found) rfl
  obtain ⟨fd43, F43⟩ := c.def_ 43 (d := d_Bridge_over_left) rfl
  obtain ⟨fd44, F44⟩ := c.def_ 44 (d := d_Bridge_over_right) rfl
  obtain ⟨fd45, F45⟩ := c.def_ 45 (d := d_Bridge_through_part) rfl
  have D_is_letter : Def K mg "is_letter" s_is_letter p_is_letter := ⟨_, fd0, funOf F0, (FunD.bindsN (ps := p_is_letter) F0 (fun _ _ _ _ _ _ us hl => match us, hl with | [_], _ => rfl)), (He.glo_ok X G (c.fact 0 (f := .glo "is_letter") rfl))⟩
  have D_measured : Def K mg "measured" s_measured p_measured := ⟨_, fd1, funOf F1, (FunD.bindsN (ps := p_measured) F1 (fun _ _ _ _ _ _ us hl => match us, hl with | [_, _], _ => rfl)), (He.glo_ok X G (c.fact 1 (f := .glo "measured") rfl))⟩
  have D_need_term : Def K mg "need_term" s_need_term p_need_term := ⟨_, fd3, funOf F3, (FunD.bindsN (ps := p_need_term) F3 (fun _ _ _ _ _ _ us hl => match us, hl with | [_], _ => rfl)), (He.glo_ok X G (c.fact 3 (f := .glo "need_term") rfl))⟩
  have D_text_of : Def K mg "text_of" s_text_of p_text_of := ⟨_, fd4, funOf F4, (FunD.bindsN (ps := p_text_of) F4 (fun _ _ _ _ _ _ us hl => match us, hl with | [_], _ => rfl)), (He.glo_ok X G (c.fact 4 (f := .glo "text_of") rfl))⟩
  have D_L_source : Def K mg "_law_source" s_L_source p_L_source := ⟨_, fd6, funOf F6, (FunD.bindsN (ps := p_L_source) F6 (fun _ _ _ _ _ _ us hl => match us, hl with | [_], _ => rfl)), (He.glo_ok X G (c.fact 6 (f := .glo "_law_source") rfl))⟩
  have D_L_take : Def K mg "_law_take" s_L_take p_L_take := ⟨_, fd7, funOf F7, (FunD.bindsN (ps := p_L_take) F7 (fun _ _ _ _ _ _ us hl => match us, hl with | [_, _], _ => rfl)), (He.glo_ok X G (c.fact 7 (f := .glo "_law_take") rfl))⟩
  have D_L_pick : Def K mg "_law_pick" s_L_pick p_L_pick := ⟨_, fd8, funOf F8, (FunD.bindsN (ps := p_L_pick) F8 (fun _ _ _ _ _ _ us hl => match us, hl with | [_, _], _ => rfl)), (He.glo_ok X G (c.fact 8 (f := .glo "_law_pick") rfl))⟩
  have D_L_mixed : Def K mg "_law_mixed" s_L_mixed p_L_mixed := ⟨_, fd9, funOf F9, (FunD.bindsN (ps := p_L_mixed) F9 (fun _ _ _ _ _ _ us hl => match us, hl with | [_, _], _ => rfl)), (He.glo_ok X G (c.fact 9 (f := .glo "_law_mixed") rfl))⟩
  have D_L_call : Def K mg "_law_call" s_L_call p_L_call := ⟨_, fd10, funOf F10, (FunD.bindsN (ps := p_L_call) F10 (fun _ _ _ _ _ _ us hl => match us, hl with | [_], _ => rfl)), (He.glo_ok X G (c.fact 10 (f := .glo "_law_call") rfl))⟩
  have D_L_parts : Def K mg "_law_parts" s_L_parts p_L_parts := ⟨_, fd11, funOf F11, (FunD.bindsN (ps := p_L_parts) F11 (fun _ _ _ _ _ _ us hl => match us, hl with | [_], _ => rfl)), (He.glo_ok X G (c.fact 11 (f := .glo "_law_parts") rfl))⟩
  have D_L_text : Def K mg "_law_text" s_L_text p_L_text := ⟨_, fd12, funOf F12, (FunD.bindsN (ps := p_L_text) F12 (fun _ _ _ _ _ _ us hl => match us, hl with | [_], _ => rfl)), (He.glo_ok X G (c.fact 12 (f := .glo "_law_text") rfl))⟩
  have D_L_leaves : Def K mg "_law_leaves" s_L_leaves p_L_leaves := ⟨_, fd13, funOf F13, (FunD.bindsN (ps := p_L_leaves) F13 (fun _ _ _ _ _ _ us hl => match us, hl with | [_], _ => rfl)), (He.glo_ok X G (c.fact 13 (f := .glo "_law_leaves") rfl))⟩
  have D_L_walk : Def K mg "_law_walk" s_L_walk p_L_walk := ⟨_, fd14, funOf F14, (FunD.bindsN (ps := p_L_walk) F14 (fun _ _ _ _ _ _ us hl => match us, hl with | [_], _ => rfl)), (He.glo_ok X G (c.fact 14 (f := .glo "_law_walk") rfl))⟩
  have D_L_signs_in : Def K mg "_law_signs_in" s_L_signs_in p_L_signs_in := ⟨_, fd15, funOf F15, (FunD.bindsN (ps := p_L_signs_in) F15 (fun _ _ _ _ _ _ us hl => match us, hl with | [_], _ => rfl)), (He.glo_ok X G (c.fact 15 (f := .glo "_law_signs_in") rfl))⟩
  have D_L_swap : Def K mg "_law_swap" s_L_swap p_L_swap := ⟨_, fd16, funOf F16, (FunD.bindsN (ps := p_L_swap) F16 (fun _ _ _ _ _ _ us hl => match us, hl with | [_, _], _ => rfl)), (He.glo_ok X G (c.fact 16 (f := .glo "_law_swap") rfl))⟩
  have D_L_term : Def K mg "_law_term" s_L_term p_L_term := ⟨_, fd17, funOf F17, (FunD.bindsN (ps := p_L_term) F17 (fun _ _ _ _ _ _ us hl => match us, hl with | [_, _, _, _], _ => rfl)), (He.glo_ok X G (c.fact 17 (f := .glo "_law_term") rfl))⟩
  have D_L_signs : Def K mg "_law_signs" s_L_signs p_L_signs := ⟨_, fd18, funOf F18, (FunD.bindsN (ps := p_L_signs) F18 (fun _ _ _ _ _ _ us hl => match us, hl with | [_, _], _ => rfl)), (He.glo_ok X G (c.fact 18 (f := .glo "_law_signs") rfl))⟩
  have D_L_index : Def K mg "_law_index" s_L_index p_L_index := ⟨_, fd19, funOf F19, (FunD.bindsN (ps := p_L_index) F19 (fun _ _ _ _ _ _ us hl => match us, hl with | [_, _], _ => rfl)), (He.glo_ok X G (c.fact 19 (f := .glo "_law_index") rfl))⟩
  have D_L_long : Def K mg "_law_long" s_L_long p_L_long := ⟨_, fd20, funOf F20, (FunD.bindsN (ps := p_L_long) F20 (fun _ _ _ _ _ _ us hl => match us, hl with | [_, _], _ => rfl)), (He.glo_ok X G (c.fact 20 (f := .glo "_law_long") rfl))⟩
  have D_L_many_right : Def K mg "_law_many_right" s_L_many_right p_L_many_right := ⟨_, fd21, funOf F21, (FunD.bindsN (ps := p_L_many_right) F21 (fun _ _ _ _ _ _ us hl => match us, hl with | [_, _, _], _ => rfl)), (He.glo_ok X G (c.fact 21 (f := .glo "_law_many_right") rfl))⟩
  have D_L_reason_right : Def K mg "_law_reason_right" s_L_reason_right p_L_reason_right := ⟨_, fd22, funOf F22, (FunD.bindsN (ps := p_L_reason_right) F22 (fun _ _ _ _ _ _ us hl => match us, hl with | [_, _, _], _ => rfl)), (He.glo_ok X G (c.fact 22 (f := .glo "_law_reason_right") rfl))⟩
  have D_L_steps_right : Def K mg "_law_steps_right" s_L_steps_right p_L_steps_right := ⟨_, fd23, funOf F23, (FunD.bindsN (ps := p_L_steps_right) F23 (fun _ _ _ _ _ _ us hl => match us, hl with | [_, _, _], _ => rfl)), (He.glo_ok X G (c.fact 23 (f := .glo "_law_steps_right") rfl))⟩
  have D_L_below : Def K mg "_law_below" s_L_below p_L_below := ⟨_, fd24, funOf F24, (FunD.bindsN (ps := p_L_below) F24 (fun _ _ _ _ _ _ us hl => match us, hl with | [_, _, _], _ => rfl)), (He.glo_ok X G (c.fact 24 (f := .glo "_law_below") rfl))⟩
  have D_L_below_now : Def K mg "_law_below_now" s_L_below_now p_L_below_now := ⟨_, fd25, funOf F25, (FunD.bindsN (ps := p_L_below_now) F25 (fun _ _ _ _ _ _ us hl => match us, hl with | [_, _, _], _ => rfl)), (He.glo_ok X G (c.fact 25 (f := .glo "_law_below_now") rfl))⟩
  have D_L_measure : Def K mg "_law_measure" s_L_measure p_L_measure := ⟨_, fd26, funOf F26, (FunD.bindsN (ps := p_L_measure) F26 (fun _ _ _ _ _ _ us hl => match us, hl with | [_, _], _ => rfl)), (He.glo_ok X G (c.fact 26 (f := .glo "_law_measure") rfl))⟩
  have D_L_fits : Def K mg "_law_fits" s_L_fits p_L_fits := ⟨_, fd27, funOf F27, (FunD.bindsN (ps := p_L_fits) F27 (fun _ _ _ _ _ _ us hl => match us, hl with | [_], _ => rfl)), (He.glo_ok X G (c.fact 27 (f := .glo "_law_fits") rfl))⟩
  have D_L_odd : Def K mg "_law_odd" s_L_odd p_L_odd := ⟨_, fd28, funOf F28, (FunD.bindsN (ps := p_L_odd) F28 (fun _ _ _ _ _ _ us hl => match us, hl with | [_, _], _ => rfl)), (He.glo_ok X G (c.fact 28 (f := .glo "_law_odd") rfl))⟩
  have D_L_nest : Def K mg "_law_nest" s_L_nest p_L_nest := ⟨_, fd29, funOf F29, (FunD.bindsN (ps := p_L_nest) F29 (fun _ _ _ _ _ _ us hl => match us, hl with | [_], _ => rfl)), (He.glo_ok X G (c.fact 29 (f := .glo "_law_nest") rfl))⟩
  have D_L_same_word : Def K mg "_law_same_word" s_L_same_word p_L_same_word := ⟨_, fd30, funOf F30, (FunD.bindsN (ps := p_L_same_word) F30 (fun _ _ _ _ _ _ us hl => match us, hl with | [_, _, _], _ => rfl)), (He.glo_ok X G (c.fact 30 (f := .glo "_law_same_word") rfl))⟩
  have D_L_rewritten : Def K mg "_law_rewritten" s_L_rewritten p_L_rewritten := ⟨_, fd31, funOf F31, (FunD.bindsN (ps := p_L_rewritten) F31 (fun _ _ _ _ _ _ us hl => match us, hl with | [_, _, _], _ => rfl)), (He.glo_ok X G (c.fact 31 (f := .glo "_law_rewritten") rfl))⟩
  have D_L_two_words : Def K mg "_law_two_words" s_L_two_words p_L_two_words := ⟨_, fd32, funOf F32, (FunD.bindsN (ps := p_L_two_words) F32 (fun _ _ _ _ _ _ us hl => match us, hl with | [_], _ => rfl)), (He.glo_ok X G (c.fact 32 (f := .glo "_law_two_words") rfl))⟩
  obtain ⟨dsT, rT, bT⟩ := FunD.binds0 (ps := p_is_term) F2 1 (by intro z; cases z) rfl (fun D doc pm an cdv ct us ks h1 h2 => match us, ks, h1, h2 with | [_], [_, _], _, _ => ⟨_, _, _, _, _, _, rfl, rfl, _, _, _, _, _, _, rfl, rfl, rfl⟩)
  have D_is_term : DefD K mg "is_term" s_is_term p_is_term dv_is_term := ⟨_, fd2, funOf F2, dsT, rT, bT, (He.glo_ok X G (c.fact 2 (f := .glo "is_term") rfl))⟩
  have M : Brg K (He.ga K "Bridge") (He.ga K "Free") := ⟨⟨_, fd40, funOf F40, (FunD.bindsN (ps := p_Bridge_noted) F40 (fun _ _ _ _ _ _ us hl => match us, hl with | [_, _, _, _, _], _ => rfl)), He.meth_ok (c.fact 72 (f := .meth "Bridge" "noted") rfl)⟩, ⟨_, fd41, funOf F41, (FunD.bindsN (ps := p_Bridge_linked) F41 (fun _ _ _ _ _ _ us hl => match us, hl with | [_, _, _, _, _, _], _ => rfl)), He.meth_ok (c.fact 73 (f := .meth "Bridge" "linked") rfl)⟩, ⟨_, fd42, funOf F42, (FunD.bindsN (ps := p_Bridge_found) F42 (fun _ _ _ _ _ _ us hl => match us, hl with | [_, _, _], _ => rfl)), He.meth_ok (c.fact 74 (f := .meth "Bridge" "found") rfl)⟩, ⟨_, fd43, funOf F43, (FunD.bindsN (ps := p_Bridge_over_left) F43 (fun _ _ _ _ _ _ us hl => match us, hl with | [_, _, _], _ => rfl)), He.meth_ok (c.fact 75 (f := .meth "Bridge" "over_left") rfl)⟩, ⟨_, fd44, funOf F44, (FunD.bindsN (ps := p_Bridge_over_right) F44 (fun _ _ _ _ _ _ us hl => match us, hl with | [_, _, _], _ => rfl)), He.meth_ok (c.fact 76 (f := .meth "Bridge" "over_right") rfl)⟩, ⟨_, fd45, funOf F45, (FunD.bindsN (ps := p_Bridge_through_part) F45 (fun _ _ _ _ _ _ us hl => match us, hl with | [_, _, _], _ => rfl)), He.meth_ok (c.fact 77 (f := .meth "Bridge" "through_part") rfl)⟩, ⟨_, fd37, funOf F37, (FunD.bindsN (ps := p_Free_is_below) F37 (fun _ _ _ _ _ _ us hl => match us, hl with | [_, _, _], _ => rfl)), He.meth_ok (c.fact 70 (f := .meth "Free" "is_below") rfl)⟩, ⟨_, fd38, funOf F38, (FunD.bindsN (ps := p_Free_reason_for) F38 (fun _ _ _ _ _ _ us hl => match us, hl with | [_, _, _], _ => rfl)), He.meth_ok (c.fact 71 (f := .meth "Free" "reason_for") rfl)⟩⟩
  have clF : ClF K (He.ga K "Free") := ⟨He.cls_ok (c.fact 58 (f := .cls "Free") rfl), He.noat_ok (c.fact 63 (f := .noat "Free" "known") rfl), He.noat_ok (c.fact 64 (f := .noat "Free" "steps") rfl), He.noat_ok (c.fact 65 (f := .noat "Free" "place") rfl)⟩
  have clB : ClB K (He.ga K "Bridge") := ⟨He.cls_ok (c.fact 59 (f := .cls "Bridge") rfl), He.noat_ok (c.fact 66 (f := .noat "Bridge" "free") rfl), He.noat_ok (c.fact 67 (f := .noat "Bridge" "lower_steps") rfl), He.noat_ok (c.fact 68 (f := .noat "Bridge" "upper_steps") rfl)⟩
  have Br : BrF K mg (He.ga K "Bridge") (He.ga K "Free") := ⟨(He.glo_ok X G (c.fact 38 (f := .glo "Free") rfl)), (He.glo_ok X G (c.fact 39 (f := .glo "Bridge") rfl)), ⟨_, fd36, funOf F36, (FunD.bindsN (ps := p_Free_init) F36 (fun _ _ _ _ _ _ us hl => match us, hl with | [_], _ => rfl))⟩, ⟨_, fd39, funOf F39, (FunD.bindsN (ps := p_Bridge_init) F39 (fun _ _ _ _ _ _ us hl => match us, hl with | [_], _ => rfl))⟩, He.mkr_ok (c.fact 60 (f := .mkr "Free") rfl), He.mkr_ok (c.fact 61 (f := .mkr "Bridge") rfl), clF, clB⟩
  obtain ⟨e1, ex⟩ := He.ba more
  obtain ⟨k1, k⟩ := He.ba e1
  obtain ⟨k2, k⟩ := He.ba k
  obtain ⟨k3, k⟩ := He.ba k
  obtain ⟨k4, k⟩ := He.ba k
  obtain ⟨k5, k⟩ := He.ba k
  obtain ⟨k6, k⟩ := He.ba k
  obtain ⟨k7, k⟩ := He.ba k
  obtain ⟨k8, k⟩ := He.ba k
  obtain ⟨k9, k10⟩ := He.ba k
  obtain ⟨m1, k⟩ := He.ba ex
  obtain ⟨m2, m3⟩ := He.ba k
  have oI : OexC K (He.ga K "InvalidTerm") := ⟨oexB_ok k1, He.eqO_ok k2, of_decide_eq_true m2, of_decide_eq_true m3, m1⟩
  have Er : ErrF K mg := { cF := _, cI := He.ga K "InvalidTerm", cM := _, cL := _, cFg := (He.glo_ok X G (c.fact 34 (f := .glo "FaultError") rfl)), cIg := (He.glo_ok X G (c.fact 35 (f := .glo "InvalidTerm") rfl)), cMg := (He.glo_ok X G (c.fact 36 (f := .glo "Missing") rfl)), cLg := (He.glo_ok X G (c.fact 37 (f := .glo "NothingLeft") rfl)), oI := oI, fI := _, fdI := fd35, initI := He.eqO_ok k5, tI := of_decide_eq_true k6, fnI := funOf F35, bI := (FunD.bindsN (ps := p_InvalidTerm_init) F35 (fun _ _ _ _ _ _ us hl => match us, hl with | [_], _ => rfl)), mc := .type "type", rdF := ⟨k7, He.eqO_ok k8⟩, fF := _, fdF := fd34, atF := cfB_ok k9, fnF := funOf F34, kpF := F34.kp, bF := (FunD.bindsN (ps := p_FaultError_init) F34 (fun _ _ _ _ _ _ us hl => match us, hl with | [_, _], _ => rfl)), noC := He.noat_ok (c.fact 69 (f := .noat "InvalidTerm" "code") rfl), ve := (He.free_ok X G (c.fact 56 (f := .free "ValueError") rfl)), vV := cfB_ok k10, xf := xfB_ok k3, isF := He.exm_ok (c.fact 62 (f := .exm "InvalidTerm" "FaultError" true) rfl) }
  obtain ⟨tL, hL⟩ := He.str_ok X G (c.fact 57 (f := .str "LETTERS" LETTERS) rfl)
  have C : Cns K mg := ⟨tL, hL, _, (He.glo_ok X G (c.fact 40 (f := .glo "OPERATORS") rfl)), fun H => He.tupB_ok k4 H⟩
  have Bt : Blt mg := ⟨(He.free_ok X G (c.fact 41 (f := .free "isinstance") rfl)), (He.free_ok X G (c.fact 42 (f := .free "len") rfl)), (He.free_ok X G (c.fact 43 (f := .free "all") rfl)), (He.free_ok X G (c.fact 44 (f := .free "any") rfl)), (He.free_ok X G (c.fact 45 (f := .free "sum") rfl)), (He.free_ok X G (c.fact 46 (f := .free "zip") rfl)), (He.free_ok X G (c.fact 47 (f := .free "range") rfl)), (He.free_ok X G (c.fact 48 (f := .free "sorted") rfl)), (He.free_ok X G (c.fact 49 (f := .free "int") rfl)), (He.free_ok X G (c.fact 50 (f := .free "str") rfl)), (He.free_ok X G (c.fact 51 (f := .free "tuple") rfl)), (He.free_ok X G (c.fact 52 (f := .free "list") rfl)), (He.free_ok X G (c.fact 53 (f := .free "set") rfl)), (He.free_ok X G (c.fact 54 (f := .free "bool") rfl)), (He.free_ok X G (c.fact 56 (f := .free "ValueError") rfl))⟩
  obtain ⟨D_between, kb⟩ : ∃ D : Def K mg "between" s_between p_between, KBinds K D.fd p_between ["right", "left"] gRL gRLV := ⟨⟨_, fd5, funOf F5, (FunD.bindsN (ps := p_between) F5 (fun _ _ _ _ _ _ us hl => match us, hl with | [_, _], _ => rfl)), (He.glo_ok X G (c.fact 5 (f := .glo "between") rfl))⟩, kbOf F5⟩
  obtain ⟨oc, od, dV, kV, doc, pm, an, cdv, ct, osl, eL, lkL, hcL, _, _⟩ := F33.ex
  obtain ⟨cL, rfl⟩ := He.codeIn_ref hcL
  subst eL
  have efa := hfa.symm.trans (He.glo_ok X G (c.fact 33 (f := .glo "law") rfl))
  cases efa
  have ecT : He.codeOf K ("law", none) = cL := He.codeOf_eq lkL rfl
  have mem : (("law" : Str), (none : Option Str)) ∈ tfL := List.mem_cons_self
  refine ⟨_, [He.cT K ("law", none)], sp_law K (He.cT K ("law", none)).2, fun p hp => ?_, fun p hp => ?_, fun p hp => ?_, fun s u => FunD.bindsA (ps := p_law) F33 (fun _ _ _ _ _ _ us hl => match us, hl with | [_], _ => rfl) s [u] rfl, fun H a ns hl _ hT hS => ?_, fun base KX' G' TB => ?_⟩
  · cases hp with
    | head => exact cc.empty _ mem
    | tail _ z => cases z
  · cases hp with
    | head => exact cc.out _ mem
    | tail _ z => cases z
  · cases hp with
    | head => exact PySem.W.codeHd_of_K X (cc.hd _ mem)
    | tail _ z => cases z
  · exact ⟨a, ns, rfl, hS, Nat.le_trans hl (by decide), hT _ List.mem_cons_self, fun _ => rfl⟩
  · have TB1 := TB _ List.mem_cons_self
    have TB2 : LamX.TabB base mg cL (He.cT K ("law", none)).2 := ecT ▸ TB1
    exact ok_law Bt C Er Br M D_between D_need_term D_is_term D_measured D_is_letter D_text_of D_L_source D_L_take D_L_pick D_L_mixed D_L_signs D_L_term D_L_same_word D_L_rewritten D_L_two_words D_L_odd D_L_nest D_L_fits D_L_measure D_L_swap D_L_below D_L_below_now D_L_text D_L_long D_L_leaves D_L_steps_right D_L_reason_right D_L_many_right D_L_index D_L_signs_in D_L_walk D_L_parts D_L_call kb lkL hcL TB2
end Z
open PySem PySem.W PySem.Calls PyProof.Rows
theorem PySem.Challenge.cw_fivefault_k46_whole_terms_between_holds : PySem.Challenge.rw_fivefault_k46_whole_terms_between.Holds := by
  w_on; o_law
  refine HandSHeadRun.head_any (r := OpenLaw.row PySem.Challenge.rw_fivefault_k46_whole_terms_between) (q := Z.qL) (H := Z.hkL) (ob := Z.obL) (M := 3400) (loose := Z.looL) (d := HandSHeadRun.topDef (OpenLaw.row PySem.Challenge.rw_fivefault_k46_whole_terms_between).prog 50) (kwd := []) Z.obL_eq
    (by kernel_rfl) (fun s => by kernel_rfl) Z.runL (by kernel_rfl) (by kernel_rfl) (by kernel_rfl) (by rfl) (by first | assumption | decide +kernel) (by decide +kernel) ⟨rfl, rfl, rfl, rfl, rfl, by decide +kernel⟩ ?hw ?hc
  case hw => w_witness2
  case hc =>
    refine LamX.walk_ofTsE (l := PySem.Challenge.rw_fivefault_k46_whole_terms_between) (n := 63) (k := 38) (x := "_law_script") (CX := fun _ => L2.CX0) rfl (by decide) (by kernel_rfl) ⟨rfl, by decide, by decide⟩ ?F (fun _ _ _ _ _ z => z)
    intro w mg fa h Y G hmg0
    obtain ⟨K, KX, c⟩ := Y
    have hmg : mg ("law" : PySem.Str) = some (.ref fa) := by
      have e : (HandSHeadRun.topDef (OpenLaw.row PySem.Challenge.rw_fivefault_k46_whole_terms_between).prog 50).name = ("law" : PySem.Str) := by kernel_rfl
      rw [← e]
      exact hmg0
    exact ⟨K, KX, Z.factsL KX G hmg c⟩
