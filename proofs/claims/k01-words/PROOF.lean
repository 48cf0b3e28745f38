import PyProof.Rows.All
import HandS.ForMost
import HandS.ForExc
import HandS.Flow
import HandS.Style
import HandS.TupAny
import HandS.TupLe
import HandS.Deep
import HandS.Wide
import HandS.IsInst
import HandS.StrMore
import HandS.More
import HandS.ReplaceLit
import HandS.ReplaceList
import HandS.Zip
import HandS.CallSlots
import Wide.All
import OpenK.AllK
import Wide.FinOn
import PySem.Challenge.RW_worldtale_k01_words
set_option Elab.async false
set_option linter.all false
set_option autoImplicit false
set_option maxRecDepth 100000
set_option maxHeartbeats 4000000
/-! Mi1: data, stores, what stands for what; outcomes and their transformers. -/
namespace Mi
open PySem L2

/-- data: trees; `ref i` is the i-th object of the store -/
inductive D where
  | non | bl (b : Bool) | int (i : Int) | str (s : Str) | tup (xs : List D) | lst (xs : List D) | dct (kvs : List (Key × D)) | frz (xs : List D) | ref (i : Nat)
/-- what stands in the store -/
inductive Ob where
  | lst (xs : List D) | dct (kvs : List (Key × D)) | ins (c : Nat) (fs : List (Str × D))
abbrev Store := List Ob
/-- where the store's objects stand; L: addresses that no frozen thing has (live ones, and such as are being made) -/
structure Mu where
  f : Nat → Addr
  L : Addr → Prop
instance : CoeFun Mu (fun _ => Nat → Addr) := ⟨Mu.f⟩

/-- a list that is read alone: frozen, or of the module -/
def FrzAt (K : PySem.W.Frag) (μ : Mu) (H : Hp) (a : Addr) (xs : List V) : Prop := ((∃ o, H a = some (.frz o (.lst xs))) ∧ ¬ μ.L a) ∨
    ∃ (o : Obj) (its : Array Value) (n : Nat), K.lookup a = some o ∧ o.cls = .type "list" ∧ o.dict = none ∧ o.data = .seq its n ∧ its.size ≤ sizeLine ∧ Vals xs its.toList
theorem FrzAt.sq {K : PySem.W.Frag} {μ : Mu} {H : Hp} {a : Addr} {xs : List V} (h : FrzAt K μ H a xs) : SqL K H a xs := by
  rcases h with ⟨⟨o, h⟩, _⟩ | h
  · exact .inl (.inr ⟨o, h⟩)
  · exact .inr h
theorem FrzAt.less {K : PySem.W.Frag} {μ μ' : Mu} {H : Hp} {a : Addr} {xs : List V} (hL : ∀ a, μ'.L a → μ.L a) (h : FrzAt K μ H a xs) : FrzAt K μ' H a xs := by
  rcases h with ⟨⟨o, h⟩, nl⟩ | h
  · exact .inl ⟨⟨o, h⟩, fun z => nl (hL _ z)⟩
  · exact .inr h
mutual
inductive Dat (K : PySem.W.Frag) (n : Nat) (μ : Mu) (H : Hp) : V → D → Prop
  | non : Dat K n μ H .non .non
  | bl (b : Bool) : Dat K n μ H (.bl b) (.bl b)
  | int (i : Int) : Dat K n μ H (.int i) (.int i)
  | str {x : Str} (hl : x.length ≤ sizeLine) (ok : PyData.strOk x = true) : Dat K n μ H (.str x) (.str x)
  | tup {a : Addr} {xs : List V} {ds : List D} (h : SqT K H a xs) (hl : ds.length ≤ sizeLine) (hs : DatL K n μ H xs ds) : Dat K n μ H (.ref a) (.tup ds)
  | lst {a : Addr} {xs : List V} {ds : List D} (h : H a = some (.lst xs)) (nl : ¬ μ.L a) (hl : ds.length ≤ sizeLine) (hs : DatL K n μ H xs ds) : Dat K n μ H (.ref a) (.lst ds)
  | dct {a : Addr} {xs : List (Key × V)} {ds : List (Key × D)} (h : H a = some (.dK xs)) (nl : ¬ μ.L a) (hl : ds.length ≤ sizeLine) (hs : DatK K n μ H xs ds) : Dat K n μ H (.ref a) (.dct ds)
  | frz {a : Addr} {xs : List V} {ds : List D} (h : FrzAt K μ H a xs) (hl : ds.length ≤ sizeLine) (hs : DatL K n μ H xs ds) : Dat K n μ H (.ref a) (.frz ds)
  | ref {i : Nat} (h : i < n) : Dat K n μ H (.ref (μ i)) (.ref i)
inductive DatL (K : PySem.W.Frag) (n : Nat) (μ : Mu) (H : Hp) : List V → List D → Prop
  | nil : DatL K n μ H [] []
  | cons {v : V} {vs : List V} {d : D} {ds : List D} (h : Dat K n μ H v d) (t : DatL K n μ H vs ds) : DatL K n μ H (v :: vs) (d :: ds)
inductive DatK (K : PySem.W.Frag) (n : Nat) (μ : Mu) (H : Hp) : List (Key × V) → List (Key × D) → Prop
  | nil : DatK K n μ H [] []
  | cons {k : Key} {v : V} {vs : List (Key × V)} {d : D} {ds : List (Key × D)} (h : Dat K n μ H v d) (t : DatK K n μ H vs ds) : DatK K n μ H ((k, v) :: vs) ((k, d) :: ds)
end
/-- the fields of an instance -/
inductive DatF (K : PySem.W.Frag) (n : Nat) (μ : Mu) (H : Hp) : List (Str × V) → List (Str × D) → Prop
  | nil : DatF K n μ H [] []
  | cons {k : Str} {v : V} {vs : List (Str × V)} {d : D} {ds : List (Str × D)} (h : Dat K n μ H v d) (t : DatF K n μ H vs ds) : DatF K n μ H ((k, v) :: vs) ((k, d) :: ds)

/-- how heap and store go on: what is not live stays -/
structure Wx (n : Nat) (μ : Mu) (H : Hp) (n' : Nat) (μ' : Mu) (H' : Hp) : Prop where
  le : n ≤ n'
  mu : ∀ i, i < n → μ' i = μ i
  keep : ∀ a o, H a = some o → ¬ μ.L a → H' a = some o
  new : ∀ i, n ≤ i → i < n' → H (μ' i) = none
  lv : ∀ a, μ.L a → μ'.L a
  fr : ∀ a, μ'.L a → μ.L a ∨ H a = none
  tups : ∀ a xs, Rd H a (.tup xs) → Rd H' a (.tup xs)
  dom : ∀ a, H' a = none → H a = none
/-- .. and what is held stays, too -/
structure Ext (n : Nat) (μ : Mu) (H : Hp) (n' : Nat) (μ' : Mu) (H' : Hp) : Prop extends Wx n μ H n' μ' H' where
  all : ∀ a o, H a = some o → (∀ i, i < n → μ i ≠ a) → H' a = some o

section
variable {K : PySem.W.Frag} {n n1 n2 : Nat} {μ μ1 μ2 : Mu} {H H1 H2 : Hp}
theorem Ext.refl : Ext n μ H n μ H := ⟨⟨Nat.le_refl _, fun _ _ => rfl, fun _ _ h _ => h, fun i h1 h2 => absurd h1 (by omega), fun _ h => h, fun _ h => .inl h, fun _ _ h => h, fun _ h => h⟩, fun _ _ h _ => h⟩
theorem Wx.nl (e : Wx n μ H n1 μ1 H1) {a : Addr} {u : HO} (nl : ¬ μ.L a) (h : H a = some u) : ¬ μ1.L a := fun z => by
  rcases e.fr a z with q | q
  · exact nl q
  · rw [h] at q; cases q
theorem Wx.trans (a : Wx n μ H n1 μ1 H1) (b : Wx n1 μ1 H1 n2 μ2 H2) : Wx n μ H n2 μ2 H2 where
  le := Nat.le_trans a.le b.le
  mu := fun i h => (b.mu i (Nat.lt_of_lt_of_le h a.le)).trans (a.mu i h)
  keep := fun x o h nl => b.keep x o (a.keep x o h nl) (a.nl nl h)
  new := fun i h1 h2 => by
    by_cases h3 : i < n1
    · rw [b.mu i h3]; exact a.new i h1 h3
    · exact a.dom _ (b.new i (by omega) h2)
  lv := fun x h => b.lv x (a.lv x h)
  fr := fun x h => by
    rcases b.fr x h with q | q
    · exact a.fr x q
    · exact .inr (a.dom x q)
  tups := fun x xs h => b.tups x xs (a.tups x xs h)
  dom := fun x h => a.dom x (b.dom x h)
theorem Ext.trans (a : Ext n μ H n1 μ1 H1) (b : Ext n1 μ1 H1 n2 μ2 H2) : Ext n μ H n2 μ2 H2 := ⟨a.toWx.trans b.toWx, fun x o h nl => b.all x o (a.all x o h nl) fun i hi z => by
  by_cases h1 : i < n
  · exact nl i h1 (by rw [← a.mu i h1]; exact z)
  · have q := a.new i (by omega) hi
    rw [z, h] at q; cases q⟩
theorem Wx.sqT (e : Wx n μ H n1 μ1 H1) {a : Addr} {xs : List V} (h : SqT K H a xs) : SqT K H1 a xs := by
  rcases h with h | h
  · exact .inl (e.tups a xs h)
  · exact .inr h
mutual
theorem Dat.wx (e : Wx n μ H n1 μ1 H1) : ∀ {v : V} {d : D}, Dat K n μ H v d → Dat K n1 μ1 H1 v d
  | _, _, .non => .non
  | _, _, .bl b => .bl b
  | _, _, .int i => .int i
  | _, _, .str h ok => .str h ok
  | _, _, .tup h hl hs => .tup (e.sqT h) hl (DatL.wx e hs)
  | _, _, .lst h nl hl hs => .lst (e.keep _ _ h nl) (e.nl nl h) hl (DatL.wx e hs)
  | _, _, .dct h nl hl hs => .dct (e.keep _ _ h nl) (e.nl nl h) hl (DatK.wx e hs)
  | _, _, .frz h hl hs => .frz (by
      rcases h with ⟨⟨o, h⟩, nl⟩ | h
      · exact .inl ⟨⟨o, e.keep _ _ h nl⟩, e.nl nl h⟩
      · exact .inr h) hl (DatL.wx e hs)
  | _, _, .ref (i := i) h => by
    have q : μ1 i = μ i := e.mu i h
    rw [← q]
    exact .ref (Nat.lt_of_lt_of_le h e.le)
theorem DatL.wx (e : Wx n μ H n1 μ1 H1) : ∀ {vs : List V} {ds : List D}, DatL K n μ H vs ds → DatL K n1 μ1 H1 vs ds
  | _, _, .nil => .nil
  | _, _, .cons h t => .cons (Dat.wx e h) (DatL.wx e t)
theorem DatK.wx (e : Wx n μ H n1 μ1 H1) : ∀ {vs : List (Key × V)} {ds : List (Key × D)}, DatK K n μ H vs ds → DatK K n1 μ1 H1 vs ds
  | _, _, .nil => .nil
  | _, _, .cons h t => .cons (Dat.wx e h) (DatK.wx e t)
end
theorem DatF.wx (e : Wx n μ H n1 μ1 H1) : ∀ {vs : List (Str × V)} {ds : List (Str × D)}, DatF K n μ H vs ds → DatF K n1 μ1 H1 vs ds
  | _, _, .nil => .nil
  | _, _, .cons h t => .cons (Dat.wx e h) (DatF.wx e t)
theorem Dat.ext (e : Ext n μ H n1 μ1 H1) {v : V} {d : D} (h : Dat K n μ H v d) : Dat K n1 μ1 H1 v d := h.wx e.toWx
theorem DatL.ext (e : Ext n μ H n1 μ1 H1) {v : List V} {d : List D} (h : DatL K n μ H v d) : DatL K n1 μ1 H1 v d := h.wx e.toWx
theorem DatK.ext (e : Ext n μ H n1 μ1 H1) {v : List (Key × V)} {d : List (Key × D)} (h : DatK K n μ H v d) : DatK K n1 μ1 H1 v d := h.wx e.toWx
theorem DatF.ext (e : Ext n μ H n1 μ1 H1) {v : List (Str × V)} {d : List (Str × D)} (h : DatF K n μ H v d) : DatF K n1 μ1 H1 v d := h.wx e.toWx
theorem DatL.length : ∀ {vs : List V} {ds : List D}, DatL K n μ H vs ds → vs.length = ds.length
  | _, _, .nil => rfl
  | _, _, .cons _ t => congrArg (· + 1) t.length
theorem DatL.get : ∀ {vs : List V} {ds : List D} {i : Nat} {d : D}, DatL K n μ H vs ds → ds[i]? = some d → ∃ v, vs[i]? = some v ∧ Dat K n μ H v d
  | _, _, _, _, .nil, h => by simp at h
  | _, _, 0, _, .cons q _, h => by simp at h; subst h; exact ⟨_, rfl, q⟩
  | _, _, i + 1, d, .cons _ t, h => by
    obtain ⟨v, h1, h2⟩ := DatL.get (i := i) (d := d) t (by simpa using h)
    exact ⟨v, by simpa using h1, h2⟩
theorem DatL.get' : ∀ {vs : List V} {ds : List D} {i : Nat} {v : V}, DatL K n μ H vs ds → vs[i]? = some v → ∃ d, ds[i]? = some d ∧ Dat K n μ H v d
  | _, _, _, _, .nil, h => by simp at h
  | _, _, 0, _, .cons q _, h => by simp at h; subst h; exact ⟨_, rfl, q⟩
  | _, _, i + 1, v, .cons _ t, h => by
    obtain ⟨d, h1, h2⟩ := DatL.get' (i := i) (v := v) t (by simpa using h)
    exact ⟨d, by simpa using h1, h2⟩
theorem DatL.append : ∀ {xs ys : List V} {us ws : List D}, DatL K n μ H xs us → DatL K n μ H ys ws → DatL K n μ H (xs ++ ys) (us ++ ws)
  | _, _, _, _, .nil, s => s
  | _, _, _, _, .cons r t, s => .cons r (DatL.append t s)
theorem DatL.take : ∀ {xs : List V} {us : List D} (k : Nat), DatL K n μ H xs us → DatL K n μ H (xs.take k) (us.take k)
  | _, _, 0, _ => .nil
  | _, _, _ + 1, .nil => .nil
  | _, _, k + 1, .cons r t => .cons r (DatL.take k t)
theorem DatL.drop : ∀ {xs : List V} {us : List D} (k : Nat), DatL K n μ H xs us → DatL K n μ H (xs.drop k) (us.drop k)
  | _, _, 0, r => r
  | _, _, _ + 1, .nil => .nil
  | _, _, k + 1, .cons _ t => DatL.drop k t
theorem DatL.set {x : V} {u : D} (r : Dat K n μ H x u) : ∀ {xs : List V} {us : List D} (i : Nat), DatL K n μ H xs us → DatL K n μ H (xs.set i x) (us.set i u)
  | _, _, _, .nil => .nil
  | _, _, 0, .cons _ t => .cons r t
  | _, _, i + 1, .cons q t => .cons q (DatL.set r i t)
theorem DatL.reverse {xs : List V} {us : List D} (h : DatL K n μ H xs us) : DatL K n μ H xs.reverse us.reverse := by
  induction us generalizing xs with
  | nil => cases h; exact .nil
  | cons d ds ih =>
    cases h with
    | cons q t =>
      rw [List.reverse_cons, List.reverse_cons]
      exact (ih t).append (.cons q .nil)
theorem DatK.length : ∀ {vs : List (Key × V)} {ds : List (Key × D)}, DatK K n μ H vs ds → vs.length = ds.length
  | _, _, .nil => rfl
  | _, _, .cons _ t => congrArg (· + 1) t.length
theorem DatF.length : ∀ {vs : List (Str × V)} {ds : List (Str × D)}, DatF K n μ H vs ds → vs.length = ds.length
  | _, _, .nil => rfl
  | _, _, .cons _ t => congrArg (· + 1) t.length
end

/-! ### stores -/
section
variable (K : PySem.W.Frag) (cls : Nat → Addr)
def ObR (n : Nat) (μ : Mu) (H : Hp) (a : Addr) : Ob → Prop
  | .lst ds => ∃ vs, H a = some (.lst vs) ∧ DatL K n μ H vs ds ∧ ds.length ≤ sizeLine
  | .dct ds => ∃ vs, H a = some (.dK vs) ∧ DatK K n μ H vs ds ∧ ds.length ≤ sizeLine
  | .ins c fs => ∃ dx vs, H a = some (.ins (cls c) dx vs) ∧ DatF K n μ H vs fs ∧ fs.length ≤ 900
structure Rel (μ : Mu) (st : Store) (H : Hp) : Prop where
  inj : ∀ i j, i < st.length → j < st.length → μ i = μ j → i = j
  obj : ∀ (i : Nat) (o : Ob), st[i]? = some o → ObR K cls st.length μ H (μ i) o
  liv : ∀ i, i < st.length → μ.L (μ i)
  trk : ∀ a, μ.L a → ∃ u, H a = some u ∧ (∀ xs, u ≠ .tup xs) ∧ ∀ b x, u ≠ .frz b x
end
/-- slots -/
structure EnvR (K : PySem.W.Frag) (n : Nat) (μ : Mu) (H : Hp) (σ : L2.St) (ρ : List (Option D)) : Prop where
  len : σ.length = ρ.length
  at_ : ∀ (i : Nat) (d : D), ρ[i]? = some (some d) → ∃ v, σ[i]? = some (some v) ∧ Dat K n μ H v d
section
variable {K : PySem.W.Frag} {cls : Nat → Addr} {n n1 : Nat} {μ μ1 : Mu} {H H1 : Hp} {σ : L2.St} {ρ : List (Option D)} {st : Store}
theorem EnvR.ext (e : Ext n μ H n1 μ1 H1) (h : EnvR K n μ H σ ρ) : EnvR K n1 μ1 H1 σ ρ := ⟨h.len, fun i d q => by
  obtain ⟨v, h1, h2⟩ := h.at_ i d q
  exact ⟨v, h1, h2.ext e⟩⟩
theorem EnvR.wx (e : Wx n μ H n1 μ1 H1) (h : EnvR K n μ H σ ρ) : EnvR K n1 μ1 H1 σ ρ := ⟨h.len, fun i d q => by
  obtain ⟨v, h1, h2⟩ := h.at_ i d q
  exact ⟨v, h1, h2.wx e⟩⟩
theorem EnvR.set {v : V} {d : D} (h : EnvR K n μ H σ ρ) (hd : Dat K n μ H v d) (i : Nat) : EnvR K n μ H (σ.set i (some v)) (ρ.set i (some d)) := ⟨by rw [List.length_set, List.length_set]; exact h.len, fun j e q => by
  by_cases hj : i = j
  · subst hj
    by_cases hl : i < ρ.length
    · rw [List.getElem?_set_self hl] at q
      cases q
      exact ⟨v, List.getElem?_set_self (by rw [h.len]; exact hl), hd⟩
    · rw [List.getElem?_eq_none (by rw [List.length_set]; omega)] at q; cases q
  · rw [List.getElem?_set_ne hj] at q
    obtain ⟨v', h1, h2⟩ := h.at_ j e q
    exact ⟨v', by rw [List.getElem?_set_ne hj]; exact h1, h2⟩⟩
theorem EnvR.unset (h : EnvR K n μ H σ ρ) (i : Nat) : EnvR K n μ H (σ.set i none) (ρ.set i none) := ⟨by rw [List.length_set, List.length_set]; exact h.len, fun j e q => by
  by_cases hj : i = j
  · subst hj
    by_cases hl : i < ρ.length
    · rw [List.getElem?_set_self hl] at q
      cases q
    · rw [List.getElem?_eq_none (by rw [List.length_set]; omega)] at q; cases q
  · rw [List.getElem?_set_ne hj] at q
    obtain ⟨v', h1, h2⟩ := h.at_ j e q
    exact ⟨v', by rw [List.getElem?_set_ne hj]; exact h1, h2⟩⟩
theorem Rel.live (R : Rel K cls μ st H) {i : Nat} (h : i < st.length) : ∃ u, H (μ i) = some u ∧ (∀ xs, u ≠ .tup xs) ∧ ∀ b x, u ≠ .frz b x := R.trk _ (R.liv i h)
/-- a new object that is not live -/
theorem Rel.fresh (R : Rel K cls μ st H) {p : Addr} {o : HO} (hp : H p = none) : Ext st.length μ H st.length μ (upd H p o) ∧ ¬ μ.L p := by
  have nl : ¬ μ.L p := fun z => by
    obtain ⟨u, h, _⟩ := R.trk p z
    rw [hp] at h; cases h
  refine ⟨⟨⟨Nat.le_refl _, fun _ _ => rfl, fun a u h _ => by rw [upd_ne (ne_of_none h hp)]; exact h, fun i h1 h2 => absurd h1 (by omega), fun _ h => h, fun _ h => .inl h, fun a xs h => ?_, fun a h => ?_⟩, fun a u h _ => by rw [upd_ne (ne_of_none h hp)]; exact h⟩, nl⟩
  · rcases h with h | ⟨b, h⟩
    · exact .inl (by rw [upd_ne (ne_of_none h hp)]; exact h)
    · exact .inr ⟨b, by rw [upd_ne (ne_of_none h hp)]; exact h⟩
  · by_cases e : a = p
    · subst e; exact hp
    · rw [upd_ne e] at h; exact h
theorem ObR.wx (e : Wx n μ H n1 μ1 H1) {a : Addr} {o : Ob} (h : ObR K cls n μ H a o) (hk : ∀ u, H a = some u → H1 a = some u) : ObR K cls n1 μ1 H1 a o := by
  cases o with
  | lst ds => obtain ⟨vs, h, q, z⟩ := h; exact ⟨vs, hk _ h, q.wx e, z⟩
  | dct ds => obtain ⟨vs, h, q, z⟩ := h; exact ⟨vs, hk _ h, q.wx e, z⟩
  | ins c fs => obtain ⟨dx, vs, h, q, z⟩ := h; exact ⟨dx, vs, hk _ h, q.wx e, z⟩
theorem ObR.ext (e : Ext n μ H n1 μ1 H1) {a : Addr} {o : Ob} (h : ObR K cls n μ H a o) (hk : ∀ u, H a = some u → H1 a = some u) : ObR K cls n1 μ1 H1 a o := h.wx e.toWx hk
theorem Rel.upd (R : Rel K cls μ st H) {p : Addr} {o : HO} (hp : H p = none) : Rel K cls μ st (upd H p o) := by
  obtain ⟨e, nl⟩ := R.fresh (o := o) hp
  refine ⟨R.inj, fun i ob q => ?_, R.liv, fun a z => ?_⟩
  · exact (R.obj i ob q).ext e fun u hu => by rw [upd_ne (fun z => nl (by rw [← z]; exact R.liv i (List.getElem?_eq_some_iff.mp q).1))]; exact hu
  · obtain ⟨u, h, h1⟩ := R.trk a z
    exact ⟨u, by rw [upd_ne (ne_of_none h hp)]; exact h, h1⟩
/-- a new object that becomes live -/
def mset (μ : Mu) (n : Nat) (p : Addr) : Mu := ⟨fun i => if i = n then p else μ i, fun a => μ.L a ∨ a = p⟩
theorem mset_at (μ : Mu) (n : Nat) (p : Addr) : mset μ n p n = p := if_pos rfl
theorem mset_ne {μ : Mu} {n i : Nat} {p : Addr} (h : i ≠ n) : mset μ n p i = μ i := if_neg h
/-- .. that may not be a frozen thing -/
def mhold (μ : Mu) (p : Addr) : Mu := ⟨μ.f, fun a => μ.L a ∨ a = p⟩
theorem Rel.ext_new (R : Rel K cls μ st H) {p : Addr} {o : HO} (hp : H p = none) : Ext st.length μ H (st.length + 1) (mset μ st.length p) (L2.upd H p o) := by
  obtain ⟨e, nl⟩ := R.fresh (o := o) hp
  exact ⟨⟨Nat.le_succ _, fun i hi => mset_ne (Nat.ne_of_lt hi), e.keep, fun i h1 h2 => by
    have : i = st.length := by omega
    subst this
    rw [mset_at]; exact hp, fun a h => .inl h, fun a h => h.elim .inl fun z => .inr (by rw [z]; exact hp), e.tups, e.dom⟩, e.all⟩
theorem Rel.alloc (R : Rel K cls μ st H) {p : Addr} {o : HO} {ob : Ob} (hp : H p = none) (h1 : ∀ xs, o ≠ .tup xs) (h2 : ∀ b x, o ≠ .frz b x) (ho : ObR K cls (st.length + 1) (mset μ st.length p) (L2.upd H p o) p ob) : Rel K cls (mset μ st.length p) (st ++ [ob]) (L2.upd H p o) := by
  have nl := (R.fresh (o := o) hp).2
  have nm : ∀ i, i < st.length → μ i ≠ p := fun i hi z => nl (by rw [← z]; exact R.liv i hi)
  have E := R.ext_new (o := o) hp
  have el : (st ++ [ob]).length = st.length + 1 := by simp
  refine ⟨fun i j hi hj e => ?_, fun i o' q => ?_, fun i hi => ?_, fun a z => ?_⟩
  · rw [el] at hi hj
    by_cases h1 : i = st.length
    · by_cases h2 : j = st.length
      · omega
      · rw [h1, mset_at, mset_ne h2] at e
        exact absurd e.symm (nm j (by omega))
    · by_cases h2 : j = st.length
      · rw [h2, mset_at, mset_ne h1] at e
        exact absurd e (nm i (by omega))
      · rw [mset_ne h1, mset_ne h2] at e
        exact R.inj i j (by omega) (by omega) e
  · rw [el]
    by_cases h1 : i < st.length
    · rw [List.getElem?_append_left h1] at q
      rw [mset_ne (Nat.ne_of_lt h1)]
      exact (R.obj i o' q).ext E fun u hu => by rw [upd_ne (nm i h1)]; exact hu
    · have h2 : i = st.length := by
        have := (List.getElem?_eq_some_iff.mp q).1
        rw [el] at this
        omega
      subst h2
      rw [List.getElem?_append_right (Nat.le_refl _), Nat.sub_self] at q
      have : ob = o' := Option.some.inj q
      subst this
      rw [mset_at]
      exact ho
  · rw [el] at hi
    by_cases h1 : i = st.length
    · rw [h1, mset_at]; exact .inr rfl
    · rw [mset_ne h1]; exact .inl (R.liv i (by omega))
  · rcases z with z | z
    · obtain ⟨u, h, h'⟩ := R.trk a z
      exact ⟨u, by rw [upd_ne (ne_of_none h hp)]; exact h, h'⟩
    · rw [z]
      exact ⟨o, upd_same, h1, h2⟩
/-- a held object changes -/
theorem Rel.wx_set (R : Rel K cls μ st H) {p : Addr} {o : HO} (hp : μ.L p) : Wx st.length μ H st.length μ (L2.upd H p o) := by
  obtain ⟨u, hu, h1, h2⟩ := R.trk p hp
  refine ⟨Nat.le_refl _, fun _ _ => rfl, fun a u' h nl => by rw [upd_ne (fun z => nl (by rw [z]; exact hp))]; exact h, fun j h1 h2 => absurd h1 (by omega), fun _ h => h, fun _ h => .inl h, fun a xs h => ?_, fun a h => ?_⟩
  · rcases h with h | ⟨b, h⟩
    · exact .inl (by rw [upd_ne (fun z => by rw [z, hu] at h; exact h1 _ (Option.some.inj h))]; exact h)
    · exact .inr ⟨b, by rw [upd_ne (fun z => by rw [z, hu] at h; exact h2 _ _ (Option.some.inj h))]; exact h⟩
  · by_cases e : a = p
    · rw [e, upd_same] at h; cases h
    · rw [upd_ne e] at h; exact h
/-- a live object changes -/
theorem Rel.ext_set (R : Rel K cls μ st H) {i : Nat} {o : HO} (hi : i < st.length) : Ext st.length μ H st.length μ (L2.upd H (μ i) o) :=
  ⟨R.wx_set (R.liv i hi), fun a u h nl => by rw [upd_ne (fun z => nl i hi z.symm)]; exact h⟩
theorem Rel.set (R : Rel K cls μ st H) {i : Nat} {o : HO} {ob : Ob} (hi : i < st.length) (h1 : ∀ xs, o ≠ .tup xs) (h2 : ∀ b x, o ≠ .frz b x) (ho : ObR K cls st.length μ (L2.upd H (μ i) o) (μ i) ob) : Rel K cls μ (st.set i ob) (L2.upd H (μ i) o) := by
  have E := R.ext_set (o := o) hi
  refine ⟨fun j k hj hk e => R.inj j k (by rw [List.length_set] at hj; exact hj) (by rw [List.length_set] at hk; exact hk) e, fun j o' q => ?_, fun j hj => R.liv j (by rw [List.length_set] at hj; exact hj), fun a z => ?_⟩
  · rw [List.length_set]
    by_cases h1 : i = j
    · subst h1
      rw [List.getElem?_set_self hi] at q
      cases q
      exact ho
    · rw [List.getElem?_set_ne h1] at q
      have hj := (List.getElem?_eq_some_iff.mp q).1
      exact (R.obj j o' q).ext E fun u hu => by rw [upd_ne (fun z => h1 (R.inj j i hj hi z).symm)]; exact hu
  · by_cases e : a = μ i
    · rw [e]; exact ⟨o, upd_same, h1, h2⟩
    · obtain ⟨u, h, h'⟩ := R.trk a z
      exact ⟨u, by rw [upd_ne e]; exact h, h'⟩
end
end Mi
/-! Mi2: outcomes, transformers, strict operations. -/
namespace Mi
open PySem L2

/-- an exception: its class, its fields -/
structure Xc where
  c : Nat
  fs : List (Str × D)
inductive O (α : Type) where
  | no | ok (a : α) (st : Store) | ex (x : Xc) (st : Store)
def O.bind {α β : Type} (o : O α) (k : α → Store → O β) : O β := match o with
  | .no => .no
  | .ok a st => k a st
  | .ex x st => .ex x st
theorem O.bind_no {α β : Type} (k : α → Store → O β) : (O.no : O α).bind k = .no := rfl
theorem O.bind_ok {α β : Type} (a : α) (st : Store) (k : α → Store → O β) : (O.ok a st).bind k = k a st := rfl
theorem O.bind_ex {α β : Type} (x : Xc) (st : Store) (k : α → Store → O β) : (O.ex x st : O α).bind k = .ex x st := rfl
abbrev Rho := List (Option D)
abbrev M (α : Type) := Rho → Store → O α
inductive OS where
  | no | nx (ρ : Rho) (st : Store) | rt (d : D) (st : Store) | bk (ρ : Rho) (st : Store) | ct (ρ : Rho) (st : Store) | ex (x : Xc) (ρ : Rho) (st : Store)
abbrev MS := Rho → Store → OS

/-- what is fixed: the program, the written part, where classes stand -/
structure Cf where
  P : Program
  w : World
  K : PySem.W.Frag
  mg : Str → Option Value
  base : Heap
  cls : Nat → Addr
  xcl : Nat → Addr
abbrev Cf.Rel (C : Cf) (μ : Mu) (st : Store) (H : Hp) : Prop := Mi.Rel C.K C.cls μ st H
abbrev Cf.Env (C : Cf) (n : Nat) (μ : Mu) (H : Hp) (σ : L2.St) (ρ : Rho) : Prop := EnvR C.K n μ H σ ρ
def ExR (C : Cf) (n : Nat) (μ : Mu) (H : Hp) (cl : Value) (dd : Option Addr) (x : Xc) : Prop :=
  cl = .ref (C.xcl x.c) ∧ (x.fs = [] ∨ ∃ a vs, dd = some a ∧ H a = some (.xd vs) ∧ DatF C.K n μ H vs x.fs)

abbrev RelT (α β : Type) := PySem.W.Frag → Nat → Mu → Hp → β → α → Prop
def Post {α β : Type} (C : Cf) (R : RelT α β) (W : WX) (σ : L2.St) (Q : β → Hp → Prop) (n : Nat) (μ : Mu) (H : Hp) : O α → Prop
  | .no => False
  | .ok a st => ∀ (v : β) (μ' : Mu) (H' : Hp), Ext n μ H st.length μ' H' → C.Rel μ' st H' → R C.K st.length μ' H' v a → Q v H'
  | .ex x st => ∀ (cl : Value) (dd : Option Addr) (μ' : Mu) (H' : Hp), Ext n μ H st.length μ' H' → C.Rel μ' st H' → ExR C st.length μ' H' cl dd x → W cl dd σ H'
def TDg {α β : Type} (C : Cf) (R : RelT α β) (W : WX) (m : M α) : L2.St → Hp → (β → Hp → Prop) → Prop := fun σ H Q =>
  ∃ (μ : Mu) (ρ : Rho) (st : Store), C.Rel μ st H ∧ C.Env st.length μ H σ ρ ∧ Post C R W σ Q st.length μ H (m ρ st)
/-- the kinds of results -/
abbrev RB : RelT Bool Bool := fun _ _ _ _ v b => v = b
abbrev RO : RelT (Option Int) (Option Int) := fun _ _ _ _ v b => v = b
abbrev TD (C : Cf) (W : WX) (m : M D) : TE := TDg C Dat W m
abbrev TDT (C : Cf) (W : WX) (m : M Bool) : TT := TDg C RB W m
abbrev TDA (C : Cf) (W : WX) (m : M (List D)) : TA := TDg C DatL W m
abbrev TDO (C : Cf) (W : WX) (m : M (Option Int)) : TO := TDg C RO W m
/-- statements -/
def PostS (C : Cf) (W : WX) (D : Ends) (n : Nat) (μ : Mu) (H : Hp) : OS → Prop
  | .no => False
  | .nx ρ st => ∀ (σ : L2.St) (μ' : Mu) (H' : Hp), Ext n μ H st.length μ' H' → C.Rel μ' st H' → C.Env st.length μ' H' σ ρ → D.nx σ H'
  | .bk ρ st => ∀ (σ : L2.St) (μ' : Mu) (H' : Hp), Ext n μ H st.length μ' H' → C.Rel μ' st H' → C.Env st.length μ' H' σ ρ → D.bk σ H'
  | .ct ρ st => ∀ (σ : L2.St) (μ' : Mu) (H' : Hp), Ext n μ H st.length μ' H' → C.Rel μ' st H' → C.Env st.length μ' H' σ ρ → D.ct σ H'
  | .rt d st => ∀ (v : V) (μ' : Mu) (H' : Hp), Ext n μ H st.length μ' H' → C.Rel μ' st H' → Dat C.K st.length μ' H' v d → D.rt v H'
  | .ex x ρ st => ∀ (cl : Value) (dd : Option Addr) (σ : L2.St) (μ' : Mu) (H' : Hp), Ext n μ H st.length μ' H' → C.Rel μ' st H' → C.Env st.length μ' H' σ ρ → ExR C st.length μ' H' cl dd x → W cl dd σ H'
def TDS (C : Cf) (W : WX) (m : MS) : TS := fun D σ H => ∃ (μ : Mu) (ρ : Rho) (st : Store), C.Rel μ st H ∧ C.Env st.length μ H σ ρ ∧ PostS C W D st.length μ H (m ρ st)

section
variable {α β γ δ : Type} {C : Cf} {R : RelT α β} {R' : RelT γ δ} {W : WX} {σ : L2.St} {n n1 : Nat} {μ μ1 : Mu} {H H1 : Hp}
theorem Post.go {Q : β → Hp → Prop} {o : O α} (e : Ext n μ H n1 μ1 H1) (h : Post C R W σ Q n μ H o) : Post C R W σ Q n1 μ1 H1 o := by
  cases o with
  | no => exact h
  | ok a st => exact fun v μ' H' e' r d => h v μ' H' (e.trans e') r d
  | ex x st => exact fun cl dd μ' H' e' r d => h cl dd μ' H' (e.trans e') r d
theorem Post.imp {Q Q' : β → Hp → Prop} {o : O α} (h : Post C R W σ Q n μ H o) (hq : ∀ v H', Q v H' → Q' v H') : Post C R W σ Q' n μ H o := by
  cases o with
  | no => exact h
  | ok a st => exact fun v μ' H' e' r d => hq _ _ (h v μ' H' e' r d)
  | ex x st => exact h
theorem PostS.go {D : Ends} {o : OS} (e : Ext n μ H n1 μ1 H1) (h : PostS C W D n μ H o) : PostS C W D n1 μ1 H1 o := by
  cases o with
  | no => exact h
  | nx ρ st => exact fun v μ' H' e' r d => h v μ' H' (e.trans e') r d
  | bk ρ st => exact fun v μ' H' e' r d => h v μ' H' (e.trans e') r d
  | ct ρ st => exact fun v μ' H' e' r d => h v μ' H' (e.trans e') r d
  | rt ρ st => exact fun v μ' H' e' r d => h v μ' H' (e.trans e') r d
  | ex x ρ st => exact fun cl dd σ μ' H' e' r d => h cl dd σ μ' H' (e.trans e') r d
/-- the first part of what goes on -/
theorem Post.bind {Q : δ → Hp → Prop} {o : O α} {k : α → Store → O γ} (h : Post C R' W σ Q n μ H (o.bind k)) :
    Post C R W σ (fun v H1 => ∃ (a : α) (st1 : Store) (μ1 : Mu), o = .ok a st1 ∧ Ext n μ H st1.length μ1 H1 ∧ C.Rel μ1 st1 H1 ∧ R C.K st1.length μ1 H1 v a ∧ Post C R' W σ Q st1.length μ1 H1 (k a st1)) n μ H o := by
  cases o with
  | no => exact h
  | ok a st => exact fun v μ' H' e r d => ⟨a, st, μ', rfl, e, r, d, Post.go e h⟩
  | ex x st => exact h
theorem Post.ok_of {Q : β → Hp → Prop} {a : α} {st : Store} (h : Post C R W σ Q n μ H (.ok a st)) {v : β} {μ' : Mu} {H' : Hp} (e : Ext n μ H st.length μ' H') (r : C.Rel μ' st H') (d : R C.K st.length μ' H' v a) : Q v H' := h v μ' H' e r d
end

end Mi
namespace L2
open PySem
/-! ### any rule -/
section
variable {X : Cx}
theorem OpR.any {f : Value → Value → Sem Value} : OpR X f (fun x y H Q => ∃ r, OpR X f r ∧ r x y H Q) := by
  intro pins s σ H x y v u Q I rx ry ⟨r, hr, h⟩
  exact hr pins s σ H x y v u Q I rx ry h
theorem UnR.any {f : Value → Sem Value} : UnR X f (fun x H Q => ∃ r, UnR X f r ∧ r x H Q) := by
  intro pins s σ H x v Q I rx ⟨r, hr, h⟩
  exact hr pins s σ H x v Q I rx h
theorem CallR.any {f : Value} : CallR X f (fun xs H Q => ∃ r, CallR X f r ∧ r xs H Q) := by
  intro pins s σ H xs us Q I rx ⟨r, hr, h⟩
  exact hr pins s σ H xs us Q I rx h
theorem MtR.any {id : String} : MtR X id (fun x xs H Q => ∃ r, MtR X id r ∧ r x xs H Q) := by
  intro pins s σ H x xs v us Q I rx rs ⟨r, hr, h⟩
  exact hr pins s σ H x xs v us Q I rx rs h
theorem IxR.any : IxR X (fun x y H Q => ∃ r, IxR X r ∧ r x y H Q) := by
  intro value slice pins s σ H x y v u Q I rx ry ⟨r, hr, h⟩ hs
  exact hr value slice pins s σ H x y v u Q I rx ry h hs
theorem SlR.any : SlR X (fun x lo hi H Q => ∃ r, SlR X r ∧ r x lo hi H Q) := by
  intro pins s σ H x v vl vu lo hi sl Q I rx hs pl pu ⟨r, hr, h⟩
  exact hr pins s σ H x v vl vu lo hi sl Q I rx hs pl pu h
theorem TruR.any : TruR X (fun x H Q => ∃ r, TruR X r ∧ r x H Q) := by
  intro pins s σ H x v Q I rx ⟨r, hr, h⟩
  exact hr pins s σ H x v Q I rx h
theorem PE.imp {e : Expr} {t t' : TE} (h : PE X e t) (i : ∀ σ H Q, t' σ H Q → t σ H Q) : PE X e t' := ⟨fun pins s σ H Q I q => h.run pins s σ H Q I (i σ H Q q)⟩
theorem PT.imp {e : Expr} {t t' : TT} (h : PT X e t) (i : ∀ σ H Q, t' σ H Q → t σ H Q) : PT X e t' := ⟨fun pins s σ H Q I q => h.run pins s σ H Q I (i σ H Q q)⟩
theorem PW.imp {e : Expr} {t t' : TT} (h : PW X e t) (i : ∀ σ H Q, t' σ H Q → t σ H Q) : PW X e t' := ⟨fun whole pins s σ H Q I q => h.run whole pins s σ H Q I (i σ H Q q)⟩
theorem PA.imp {e : List Expr} {t t' : TA} (h : PA X e t) (i : ∀ σ H Q, t' σ H Q → t σ H Q) : PA X e t' := ⟨fun pos pins s σ H Q I q => h.run pos pins s σ H Q I (i σ H Q q)⟩
theorem PO.imp {e : Option Expr} {t t' : TO} (h : PO X e t) (i : ∀ σ H Q, t' σ H Q → t σ H Q) : PO X e t' := ⟨fun pins s σ H Q I q => h.run pins s σ H Q I (i σ H Q q)⟩
theorem PS.imp {e : Stmt} {t t' : TS} (h : PS X e t) (i : ∀ D σ H, t' D σ H → t D σ H) : PS X e t' := ⟨fun pins s σ H D I q => h.run pins s σ H D I (i D σ H q)⟩
theorem PSs.imp {e : List Stmt} {t t' : TS} (h : PSs X e t) (i : ∀ D σ H, t' D σ H → t D σ H) : PSs X e t' := ⟨fun pins s σ H D I q => h.run pins s σ H D I (i D σ H q)⟩
theorem PE.choose {e : Expr} {t' : TE} (h : ∀ σ H Q, t' σ H Q → ∃ t, PE X e t ∧ t σ H Q) : PE X e t' := ⟨fun pins s σ H Q I q => by
  obtain ⟨t, ht, q'⟩ := h σ H Q q
  exact ht.run pins s σ H Q I q'⟩
theorem PS.choose {e : Stmt} {t' : TS} (h : ∀ D σ H, t' D σ H → ∃ t, PS X e t ∧ t D σ H) : PS X e t' := ⟨fun pins s σ H D I q => by
  obtain ⟨t, ht, q'⟩ := h D σ H q
  exact ht.run pins s σ H D I q'⟩
theorem PI.choose {tg e : Expr} {t' : TI} (h : ∀ σ H Q, t' σ H Q → ∃ t, PI X tg e t ∧ t σ H Q) : PI X tg e t' := ⟨fun pins s σ H Q I q => by
  obtain ⟨t, ht, q'⟩ := h σ H Q q
  exact ht.run pins s σ H Q I q'⟩
end
end L2
namespace Mi
open PySem L2
section
variable {X : Cx}
theorem pe_no {e : Expr} {C : Cf} {W : WX} : PE X e (TD C W fun _ _ => .no) := ⟨fun pins s σ H Q I q => by
  obtain ⟨_, _, _, _, _, h⟩ := q
  exact h.elim⟩
theorem pt_no {e : Expr} {C : Cf} {W : WX} : PT X e (TDT C W fun _ _ => .no) := ⟨fun pins s σ H Q I q => by
  obtain ⟨_, _, _, _, _, h⟩ := q
  exact h.elim⟩
theorem ps_no {e : Stmt} {C : Cf} {W : WX} : PS X e (TDS C W fun _ _ => .no) := ⟨fun pins s σ H Q I q => by
  obtain ⟨_, _, _, _, _, h⟩ := q
  exact h.elim⟩
end

/-! ### strict operations -/
def mUn (f : D → Store → O D) (a : M D) : M D := fun ρ st => (a ρ st).bind f
def mBin (f : D → D → Store → O D) (a b : M D) : M D := fun ρ st => (a ρ st).bind fun x st1 => (b ρ st1).bind fun y st2 => f x y st2
def mNil : M (List D) := fun _ st => .ok [] st
def mCons (a : M D) (r : M (List D)) : M (List D) := fun ρ st => (a ρ st).bind fun x st1 => (r ρ st1).bind fun xs st2 => .ok (x :: xs) st2
def mApp (f : List D → Store → O D) (a : M (List D)) : M D := fun ρ st => (a ρ st).bind f
def mMt (f : D → List D → Store → O D) (o : M D) (a : M (List D)) : M D := fun ρ st => (o ρ st).bind fun x st1 => (a ρ st1).bind fun xs st2 => f x xs st2

/-- an operation on data is kept by a rule of values -/
def Snd2 (C : Cf) (r : R2) (f : D → D → Store → O D) : Prop := ∀ (μ : Mu) (st : Store) (H : Hp) (x y : V) (a b : D) (W : WX) (σ : L2.St) (Q : VK), C.Rel μ st H → Dat C.K st.length μ H x a → Dat C.K st.length μ H y b → Post C Dat W σ Q st.length μ H (f a b st) → r x y H Q
def Snd1 (C : Cf) (r : V → Hp → VK → Prop) (f : D → Store → O D) : Prop := ∀ (μ : Mu) (st : Store) (H : Hp) (x : V) (a : D) (W : WX) (σ : L2.St) (Q : VK), C.Rel μ st H → Dat C.K st.length μ H x a → Post C Dat W σ Q st.length μ H (f a st) → r x H Q
def SndL (C : Cf) (r : List V → Hp → VK → Prop) (f : List D → Store → O D) : Prop := ∀ (μ : Mu) (st : Store) (H : Hp) (xs : List V) (ds : List D) (W : WX) (σ : L2.St) (Q : VK), C.Rel μ st H → DatL C.K st.length μ H xs ds → Post C Dat W σ Q st.length μ H (f ds st) → r xs H Q

section
variable {C : Cf} {W : WX} {X : Cx}
theorem td_op {r : R2} {f : D → D → Store → O D} {ma mb : M D} (hf : Snd2 C r f) {σ : L2.St} {H : Hp} {Q : VK} (h : TD C W (mBin f ma mb) σ H Q) : tOp r (TD C W ma) (TD C W mb) σ H Q := by
  obtain ⟨μ, ρ, st, R, E, h⟩ := h
  refine ⟨μ, ρ, st, R, E, (Post.bind (R := Dat) h).imp fun v H1 ⟨a, st1, μ1, _, e1, R1, d1, h1⟩ => ?_⟩
  refine ⟨μ1, ρ, st1, R1, E.ext e1, (Post.bind (R := Dat) h1).imp fun y H2 ⟨b, st2, μ2, _, e2, R2, d2, h2⟩ => ?_⟩
  exact hf μ2 st2 H2 v y a b W σ Q R2 (d1.ext e2) d2 h2
theorem td_un {r : V → Hp → VK → Prop} {f : D → Store → O D} {ma : M D} (hf : Snd1 C r f) {σ : L2.St} {H : Hp} {Q : VK} (h : TD C W (mUn f ma) σ H Q) : tUn r (TD C W ma) σ H Q := by
  obtain ⟨μ, ρ, st, R, E, h⟩ := h
  refine ⟨μ, ρ, st, R, E, (Post.bind (R := Dat) h).imp fun v H1 ⟨a, st1, μ1, _, e1, R1, d1, h1⟩ => ?_⟩
  exact hf μ1 st1 H1 v a W σ Q R1 d1 h1
theorem pa_nilD : PA X [] (TDA C W mNil) := pa_nil.imp fun σ H Q ⟨μ, ρ, st, R, E, h⟩ => h [] μ H Ext.refl R .nil
theorem pa_consD {e : Expr} {es : List Expr} {ma : M D} {mr : M (List D)} (ha : PE X e (TD C W ma)) (hr : PA X es (TDA C W mr)) (hs : starEach (e :: es) X.env = (false, eval e X.env) :: starEach es X.env) : PA X (e :: es) (TDA C W (mCons ma mr)) :=
  (pa_cons ha hr hs).imp fun σ H Q ⟨μ, ρ, st, R, E, h⟩ => by
    refine ⟨μ, ρ, st, R, E, (Post.bind (R := Dat) h).imp fun v H1 ⟨a, st1, μ1, _, e1, R1, d1, h1⟩ => ?_⟩
    refine ⟨μ1, ρ, st1, R1, E.ext e1, (Post.bind (R := DatL) h1).imp fun y H2 ⟨b, st2, μ2, _, e2, R2, d2, h2⟩ => ?_⟩
    exact h2 (v :: y) μ2 H2 Ext.refl R2 (.cons (d1.ext e2) d2)
theorem td_app {r : List V → Hp → VK → Prop} {f : List D → Store → O D} {ma : M (List D)} (hf : SndL C r f) {σ : L2.St} {H : Hp} {Q : VK} (h : TD C W (mApp f ma) σ H Q) : TDA C W ma σ H fun vs H1 => r vs H1 Q := by
  obtain ⟨μ, ρ, st, R, E, h⟩ := h
  refine ⟨μ, ρ, st, R, E, (Post.bind (R := DatL) h).imp fun v H1 ⟨a, st1, μ1, _, e1, R1, d1, h1⟩ => ?_⟩
  exact hf μ1 st1 H1 v a W σ Q R1 d1 h1

/-- rules as expressions -/
theorem pe_opD {a b : Expr} {pos : Pos} {op : Operator} {f : D → D → Store → O D} {ma mb : M D} (hf : Snd2 C (fun x y H Q => ∃ r, OpR X (binaryOp op) r ∧ r x y H Q) f) (ha : PE X a (TD C W ma)) (hb : PE X b (TD C W mb)) : PE X (.BinOp a op b pos) (TD C W (mBin f ma mb)) :=
  (pe_op OpR.any ha hb).imp fun _ _ _ h => td_op hf h
theorem pe_unD {a : Expr} {pos : Pos} {op : UnaryOp} {f : D → Store → O D} {ma : M D} (hf : Snd1 C (fun x H Q => ∃ r, UnR X (unaryOp op) r ∧ r x H Q) f) (ha : PE X a (TD C W ma)) : PE X (.UnaryOp op a pos) (TD C W (mUn f ma)) :=
  (pe_un UnR.any ha).imp fun _ _ _ h => td_un hf h
theorem pe_cmpD {a b : Expr} {pos : Pos} {op : CmpOp} {f : D → D → Store → O D} {ma mb : M D} (hf : Snd2 C (fun x y H Q => ∃ r, OpR X (compareOp op) r ∧ r x y H Q) f) (ha : PE X a (TD C W ma)) (hb : PE X b (TD C W mb)) (hm : behindInMarks op b = false) : PE X (.Compare a [op] [b] pos) (TD C W (mBin f ma mb)) :=
  (pe_cmpR OpR.any ha hb hm).imp fun _ _ _ h => td_op hf h
theorem pe_ixD {a b : Expr} {pos : Pos} {f : D → D → Store → O D} {ma mb : M D} (hf : Snd2 C (fun x y H Q => ∃ r, IxR X r ∧ r x y H Q) f) (ha : PE X a (TD C W ma)) (hb : PE X b (TD C W mb)) (hs : PlainIx b) : PE X (.Subscript a b pos) (TD C W (mBin f ma mb)) :=
  (pe_ix IxR.any ha hb hs).imp fun _ _ _ h => td_op hf h
end
end Mi
/-! Mi3: operations on data. -/
namespace Mi
open PySem L2

/-! ### new lists and tuples -/
def mkL (b : Bool) (ds : List D) (st : Store) : O D := if ds.length ≤ sizeLine then (if b = true then .ok (.ref st.length) (st ++ [.lst ds]) else .ok (.lst ds) st) else .no
def mkT (ds : List D) (st : Store) : O D := if ds.length ≤ sizeLine then .ok (.tup ds) st else .no
section
variable {C : Cf} {W : WX} {X : Cx} {σ : L2.St} {Q : VK} {μ : Mu} {st : Store} {H : Hp}
theorem mkL_len {b : Bool} {ds : List D} (h : Post C Dat W σ Q st.length μ H (mkL b ds st)) : ds.length ≤ sizeLine := by
  unfold mkL at h
  split at h
  · assumption
  · exact False.elim h
theorem mkT_len {ds : List D} (h : Post C Dat W σ Q st.length μ H (mkT ds st)) : ds.length ≤ sizeLine := by
  unfold mkT at h
  split at h
  · assumption
  · exact False.elim h
theorem newL {b : Bool} {ds : List D} {vs : List V} (R : C.Rel μ st H) (h : Post C Dat W σ Q st.length μ H (mkL b ds st)) (hs : DatL C.K st.length μ H vs ds) {p : Addr} (hp : H p = none) : Q (.ref p) (upd H p (.lst vs)) := by
  have hl := mkL_len h
  unfold mkL at h
  rw [if_pos hl] at h
  cases b with
  | true =>
    have h' : Post C Dat W σ Q st.length μ H (.ok (.ref st.length) (st ++ [.lst ds])) := h
    have el : (st ++ [Ob.lst ds]).length = st.length + 1 := by simp
    have E := R.ext_new (o := .lst vs) hp
    refine h' (.ref p) (mset μ st.length p) _ (by rw [el]; exact E) (R.alloc hp (fun _ z => by cases z) (fun _ _ z => by cases z) ⟨vs, upd_same, hs.ext E, hl⟩) ?_
    rw [el]
    have z : Dat C.K (st.length + 1) (mset μ st.length p) (upd H p (.lst vs)) (.ref (mset μ st.length p st.length)) (.ref st.length) := .ref (Nat.lt_succ_self _)
    rw [mset_at] at z
    exact z
  | false =>
    have h' : Post C Dat W σ Q st.length μ H (.ok (.lst ds) st) := h
    obtain ⟨E, nl⟩ := R.fresh (o := .lst vs) hp
    exact h' (.ref p) μ _ E (R.upd hp) (.lst upd_same nl hl (hs.ext E))
theorem newT {ds : List D} {vs : List V} (R : C.Rel μ st H) (h : Post C Dat W σ Q st.length μ H (mkT ds st)) (hs : DatL C.K st.length μ H vs ds) {p : Addr} (hp : H p = none) : Q (.ref p) (upd H p (.tup vs)) := by
  have hl := mkT_len h
  unfold mkT at h
  rw [if_pos hl] at h
  have h' : Post C Dat W σ Q st.length μ H (.ok (.tup ds) st) := h
  obtain ⟨E, nl⟩ := R.fresh (o := .tup vs) hp
  exact h' (.ref p) μ _ E (R.upd hp) (.tup (.of upd_same) hl (hs.ext E))
/-- a value that stands already -/
theorem Post.now {d : D} {v : V} (R : C.Rel μ st H) (h : Post C Dat W σ Q st.length μ H (.ok d st)) (hv : Dat C.K st.length μ H v d) : Q v H := h v μ H Ext.refl R hv
end

/-! ### what a thing holds -/
def lstOf (st : Store) : D → Option (List D)
  | .lst xs => some xs
  | .ref i => match st[i]? with
    | some (.lst xs) => some xs
    | _ => none
  | _ => none
def seqOf (st : Store) : D → Option (List D)
  | .tup xs => some xs
  | .frz xs => some xs
  | d => lstOf st d
section
variable {C : Cf} {μ : Mu} {st : Store} {H : Hp}
theorem lstOf_ok (R : C.Rel μ st H) {v : V} {d : D} {xs : List D} (h : Dat C.K st.length μ H v d) (e : lstOf st d = some xs) : ∃ a vs, v = .ref a ∧ H a = some (.lst vs) ∧ DatL C.K st.length μ H vs xs ∧ xs.length ≤ sizeLine := by
  cases h with
  | lst h nl hl hs => cases e; exact ⟨_, _, rfl, h, hs, hl⟩
  | @ref i hi =>
    have e' : (match st[i]? with | some (.lst xs) => some xs | _ => none) = some xs := e
    cases q : st[i]? with
    | none => rw [q] at e'; cases e'
    | some o =>
      rw [q] at e'
      cases o with
      | lst ys =>
        cases e'
        obtain ⟨vs, h1, h2, h3⟩ := R.obj i _ q
        exact ⟨_, vs, rfl, h1, h2, h3⟩
      | dct _ => cases e'
      | ins _ _ => cases e'
  | _ => cases e
theorem seqOf_ok (R : C.Rel μ st H) {v : V} {d : D} {xs : List D} (h : Dat C.K st.length μ H v d) (e : seqOf st d = some xs) : ∃ a vs, v = .ref a ∧ (SqL C.K H a vs ∨ SqT C.K H a vs) ∧ DatL C.K st.length μ H vs xs ∧ xs.length ≤ sizeLine := by
  cases h with
  | tup h hl hs => cases e; exact ⟨_, _, rfl, .inr h, hs, hl⟩
  | frz h hl hs => cases e; exact ⟨_, _, rfl, .inl h.sq, hs, hl⟩
  | lst h nl hl hs => cases e; exact ⟨_, _, rfl, .inl (.of h), hs, hl⟩
  | @ref i hi =>
    obtain ⟨a, vs, h1, h2, h3, h4⟩ := lstOf_ok R (.ref hi) (show lstOf st (.ref i) = some xs from e)
    exact ⟨a, vs, h1, .inl (.of h2), h3, h4⟩
  | _ => cases e
end

/-! ### equality -/
mutual
def toPy : D → PyData
  | .non => .none
  | .bl b => .bool b
  | .int i => .int i
  | .str s => .str s
  | .tup xs => .tuple (toPys xs)
  | .lst xs => .list (toPys xs)
  | .frz xs => .list (toPys xs)
  | .dct _ => .none
  | .ref _ => .none
def toPys : List D → List PyData
  | [] => []
  | x :: r => toPy x :: toPys r
end
theorem toPys_map : ∀ l : List D, toPys l = l.map toPy
  | [] => rfl
  | x :: r => by rw [toPys, List.map_cons, toPys_map r]
def eqD (a b : D) : Bool := PyData.eqv (toPy a) (toPy b)
/-- all or nothing -/
def sq {α : Type} : List (Option α) → Option (List α)
  | [] => some []
  | some x :: r => (sq r).map (x :: ·)
  | none :: _ => none
/-- data without references; k: how deep -/
def deep : Nat → Store → D → Option D
  | 0, _, _ => none
  | _ + 1, _, .non => some .non
  | _ + 1, _, .bl b => some (.bl b)
  | _ + 1, _, .int i => some (.int i)
  | _ + 1, _, .str s => some (.str s)
  | k + 1, st, .tup xs => (sq (xs.map (deep k st))).map .tup
  | k + 1, st, .lst xs => (sq (xs.map (deep k st))).map .lst
  | k + 1, st, .frz xs => (sq (xs.map (deep k st))).map .lst
  | k + 1, st, .ref i => match st[i]? with
    | some (.lst xs) => (sq (xs.map (deep k st))).map .lst
    | _ => none
  | _ + 1, _, .dct _ => none
section
variable {C : Cf} {μ : Mu} {st : Store} {H : Hp}
def Fine (C : Cf) (H : Hp) (k : Nat) (v : V) (p : PyData) : Prop := Dp C.K H v p ∧ p.canLay0 = true ∧ p.depth ≤ k
theorem canLay0_list (l : List PyData) : (PyData.list l).canLay0 = PyData.canLayAll0 l := by simp [PyData.canLay0]
theorem canLay0_tuple (l : List PyData) : (PyData.tuple l).canLay0 = PyData.canLayAll0 l := by simp [PyData.canLay0]
theorem depth_list (l : List PyData) : (PyData.list l).depth = PyData.depthAll l + 1 := by simp [PyData.depth]
theorem depth_tuple (l : List PyData) : (PyData.tuple l).depth = PyData.depthAll l + 1 := by simp [PyData.depth]
theorem deep_all {k : Nat} (ih : ∀ (v : V) (d d' : D), Dat C.K st.length μ H v d → deep k st d = some d' → Fine C H k v (toPy d')) :
    ∀ (xs : List D) (vs : List V) (ys : List D), DatL C.K st.length μ H vs xs → sq (xs.map (deep k st)) = some ys → DpAll C.K H vs (toPys ys) ∧ PyData.canLayAll0 (toPys ys) = true ∧ PyData.depthAll (toPys ys) ≤ k
  | [], vs, ys, h, e => by
    cases h
    cases e
    exact ⟨.nil, by simp [toPys, PyData.canLayAll0], by simp [toPys, PyData.depthAll]⟩
  | d :: ds, vs, ys, h, e => by
    cases h with
    | cons h1 h2 =>
      rw [List.map_cons] at e
      cases q : deep k st d with
      | none => rw [q] at e; cases e
      | some d' =>
        rw [q] at e
        cases q2 : sq (ds.map (deep k st)) with
        | none => simp only [sq, q2] at e; cases e
        | some ys' =>
          simp only [sq, q2] at e
          cases e
          obtain ⟨a1, a2, a3⟩ := ih _ d d' h1 q
          obtain ⟨b1, b2, b3⟩ := deep_all ih ds _ ys' h2 q2
          refine ⟨.cons a1 b1, ?_, ?_⟩
          · simp [toPys, PyData.canLayAll0, a2, b2]
          · simp only [toPys, PyData.depthAll]; omega
theorem map_some {α β : Type} {o : Option α} {f : α → β} {b : β} (h : o.map f = some b) : ∃ a, o = some a ∧ f a = b := by
  cases o with
  | none => cases h
  | some a => exact ⟨a, rfl, Option.some.inj h⟩
theorem deep_ok (R : C.Rel μ st H) : ∀ (k : Nat) (v : V) (d d' : D), Dat C.K st.length μ H v d → deep k st d = some d' → Fine C H k v (toPy d')
  | 0, _, _, _, _, e => by cases e
  | k + 1, v, d, d', h, e => by
    have key := deep_all (deep_ok R k)
    have fin : ∀ (a : Addr) (vs : List V) (xs ys : List D), DatL C.K st.length μ H vs xs → SqL C.K H a vs → sq (xs.map (deep k st)) = some ys → Fine C H (k + 1) (.ref a) (.list (toPys ys)) := fun a vs xs ys hs hq e => by
      obtain ⟨b1, b2, b3⟩ := key xs vs ys hs e
      exact ⟨.lst hq b1, by rw [canLay0_list]; exact b2, by rw [depth_list]; omega⟩
    cases h with
    | non => cases e; exact ⟨.non, by simp [toPy, PyData.canLay0], by simp [toPy, PyData.depth]⟩
    | bl b => cases e; exact ⟨.bl b, by simp [toPy, PyData.canLay0], by simp [toPy, PyData.depth]⟩
    | int i => cases e; exact ⟨.int i, by simp [toPy, PyData.canLay0], by simp [toPy, PyData.depth]⟩
    | str hl ok => cases e; exact ⟨.str _, by simp [toPy, PyData.canLay0, ok], by simp [toPy, PyData.depth]⟩
    | @tup a vs xs h hl hs =>
      obtain ⟨ys, q, rfl⟩ := map_some (show (sq (xs.map (deep k st))).map D.tup = some d' from e)
      obtain ⟨b1, b2, b3⟩ := key xs vs ys hs q
      exact ⟨.tup h b1, by rw [toPy, canLay0_tuple]; exact b2, by rw [toPy, depth_tuple]; omega⟩
    | @lst a vs xs h nl hl hs =>
      obtain ⟨ys, q, rfl⟩ := map_some (show (sq (xs.map (deep k st))).map D.lst = some d' from e)
      exact fin a vs xs ys hs (.of h) q
    | @frz a vs xs h hl hs =>
      obtain ⟨ys, q, rfl⟩ := map_some (show (sq (xs.map (deep k st))).map D.lst = some d' from e)
      exact fin a vs xs ys hs h.sq q
    | dct h nl hl hs => cases e
    | @ref i hi =>
      have e' : (match st[i]? with | some (.lst xs) => (sq (xs.map (deep k st))).map D.lst | _ => none) = some d' := e
      cases q : st[i]? with
      | none => rw [q] at e'; cases e'
      | some o =>
        rw [q] at e'
        cases o with
        | lst xs =>
          obtain ⟨ys, q2, rfl⟩ := map_some (show (sq (xs.map (deep k st))).map D.lst = some d' from e')
          obtain ⟨vs, h1, h2, h3⟩ := R.obj i _ q
          exact fin _ vs xs ys h2 (.of h1) q2
        | dct _ => cases e'
        | ins _ _ => cases e'
theorem Fine.shaped {v : V} {p : PyData} (h : Fine C H 64 v p) : SeqAt.shaped p = true := by
  obtain ⟨_, h1, h2⟩ := h
  simp [SeqAt.shaped, h1, h2]
end

/-! ### operators -/
def dEq (neg : Bool) (a b : D) (st : Store) : O D := match deep 64 st a, deep 64 st b with
  | some x, some y => .ok (.bl (if neg then !eqD x y else eqD x y)) st
  | _, _ => .no
def dAdd (m : Bool) (a b : D) (st : Store) : O D := match a, b with
  | .int i, .int j => .ok (.int (i + j)) st
  | .str x, .str y => if x.length + y.length ≤ sizeLine then .ok (.str (x ++ y)) st else .no
  | .tup xs, .tup ys => mkT (xs ++ ys) st
  | a, b => match lstOf st a, lstOf st b with
    | some xs, some ys => mkL m (xs ++ ys) st
    | _, _ => .no
def dSub (a b : D) (st : Store) : O D := match a, b with
  | .int i, .int j => .ok (.int (i - j)) st
  | _, _ => .no
theorem strOk_append {x y : Str} (hx : PyData.strOk x = true) (hy : PyData.strOk y = true) : PyData.strOk (x ++ y) = true := by
  unfold PyData.strOk at *
  rw [Str.cps_append, Array.all_append, hx, hy]
  rfl
section
variable {C : Cf} {X : Cx}
theorem snd_eq (hK : X.K = C.K) (hu : X.A.units + 64 < cLine) : Snd2 C (fun x y H Q => ∃ r, OpR X (compareOp .Eq) r ∧ r x y H Q) (dEq false) := by
  intro μ st H x y a b W σ Q R da db h
  unfold dEq at h
  cases ea : deep 64 st a with
  | none => rw [ea] at h; exact False.elim h
  | some a' =>
    cases eb : deep 64 st b with
    | none => rw [ea, eb] at h; exact False.elim h
    | some b' =>
      rw [ea, eb] at h
      have fa := deep_ok R 64 x a a' da ea
      have fb := deep_ok R 64 y b b' db eb
      exact ⟨_, op_eqD hu, _, _, by rw [hK]; exact fa.1, by rw [hK]; exact fb.1, fa.shaped, fb.shaped, Post.now R h (.bl _)⟩
theorem snd_ne (hK : X.K = C.K) (hu : X.A.units + 64 < cLine) : Snd2 C (fun x y H Q => ∃ r, OpR X (compareOp .NotEq) r ∧ r x y H Q) (dEq true) := by
  intro μ st H x y a b W σ Q R da db h
  unfold dEq at h
  cases ea : deep 64 st a with
  | none => rw [ea] at h; exact False.elim h
  | some a' =>
    cases eb : deep 64 st b with
    | none => rw [ea, eb] at h; exact False.elim h
    | some b' =>
      rw [ea, eb] at h
      have fa := deep_ok R 64 x a a' da ea
      have fb := deep_ok R 64 y b b' db eb
      exact ⟨_, op_neD hu, _, _, by rw [hK]; exact fa.1, by rw [hK]; exact fb.1, fa.shaped, fb.shaped, Post.now R h (.bl _)⟩
theorem snd_add (hK : X.K = C.K) (m : Bool) : Snd2 C (fun x y H Q => ∃ r, OpR X (binaryOp .Add) r ∧ r x y H Q) (dAdd m) := by
  intro μ st H x y a b W σ Q R da db h
  have lists : ∀ xs ys, lstOf st a = some xs → lstOf st b = some ys → Post C Dat W σ Q st.length μ H (mkL m (xs ++ ys) st) → ∃ r, OpR X (binaryOp .Add) r ∧ r x y H Q := fun xs ys ea eb h => by
    obtain ⟨p, vs, rfl, hp, hv, _⟩ := lstOf_ok R da ea
    obtain ⟨q, ws, rfl, hq, hw, _⟩ := lstOf_ok R db eb
    refine ⟨_, op_cat, p, q, vs, ws, rfl, rfl, hp, hq, ?_, fun z hz => newL R h (hv.append hw) hz⟩
    have := mkL_len h
    rw [List.length_append] at this
    rw [hv.length, hw.length]; exact this
  have rest : Post C Dat W σ Q st.length μ H (match lstOf st a, lstOf st b with | some xs, some ys => mkL m (xs ++ ys) st | _, _ => .no) → ∃ r, OpR X (binaryOp .Add) r ∧ r x y H Q := fun h => by
    cases ea : lstOf st a with
    | none => rw [ea] at h; exact False.elim h
    | some xs =>
      cases eb : lstOf st b with
      | none => rw [ea, eb] at h; exact False.elim h
      | some ys => rw [ea, eb] at h; exact lists xs ys ea eb h
  cases da with
  | int i =>
    cases db with
    | int j => exact ⟨_, op_add, i, j, rfl, rfl, Post.now R h (.int _)⟩
    | _ => exact rest h
  | @str x hl ok =>
    cases db with
    | @str y hl' ok' =>
      have h' : Post C Dat W σ Q st.length μ H (if x.length + y.length ≤ sizeLine then .ok (.str (x ++ y)) st else .no) := h
      split at h'
      · rename_i hz
        refine ⟨_, op_add_str, x, y, rfl, rfl, hz, Post.now R h' (.str ?_ (strOk_append ok ok'))⟩
        show (x ++ y).cps.size ≤ _
        rw [Str.cps_append, Array.size_append]; exact hz
      · exact False.elim h'
    | _ => exact rest h
  | @tup p vs xs hT hl hs =>
    cases db with
    | @tup q ws ys hT' hl' hs' =>
      have h' : Post C Dat W σ Q st.length μ H (mkT (xs ++ ys) st) := h
      have hz := mkT_len h'
      have hz' : vs.length + ws.length ≤ sizeLine := by rw [hs.length, hs'.length, ← List.length_append]; exact hz
      have nowT : ∀ (v : V), Dat C.K st.length μ H v (.tup (xs ++ ys)) → Q v H := fun v hv => by
        unfold mkT at h'
        rw [if_pos hz] at h'
        exact Post.now R h' hv
      refine ⟨_, op_catA, p, q, vs, ws, rfl, rfl, by rw [hK]; exact hT, by rw [hK]; exact hT', hz', fun e => ?_, fun _ e => ?_, fun _ _ z hzz => newT R h' (hs.append hs') hzz⟩
      · have : xs = [] := by
          have := hs.length
          rw [e] at this
          exact List.length_eq_zero_iff.mp this.symm
        subst this
        exact nowT _ (.tup hT' hl' hs')
      · have : ys = [] := by
          have := hs'.length
          rw [e] at this
          exact List.length_eq_zero_iff.mp this.symm
        subst this
        rw [List.append_nil] at nowT
        exact nowT _ (.tup hT hl hs)
    | _ => exact rest h
  | _ => exact rest h
theorem snd_sub : Snd2 C (fun x y H Q => ∃ r, OpR X (binaryOp .Sub) r ∧ r x y H Q) dSub := by
  intro μ st H x y a b W σ Q R da db h
  cases da with
  | int i =>
    cases db with
    | int j => exact ⟨_, op_sub, i, j, rfl, rfl, Post.now R h (.int _)⟩
    | _ => exact False.elim h
  | _ => exact False.elim h
end
end Mi
/-! Mi4: more operations on data. -/
namespace Mi
open PySem L2

/-! ### numbers -/
def dMul (m : Bool) (a b : D) (st : Store) : O D := match a, b with
  | .int i, .int j => if (-(2 ^ 64) < i ∧ i < 2 ^ 64) ∨ (-(2 ^ 64) < j ∧ j < 2 ^ 64) then .ok (.int (i * j)) st else .no
  | .str x, .int k => if k ≤ 0 ∧ -1000 ≤ k then .ok (.str Str.empty) st else if k = 1 then .ok (.str x) st else .no
  | a, .int k => match lstOf st a with
    | some xs => if -1000 ≤ k ∧ k ≤ 1000 ∧ xs.length * k.toNat ≤ sizeLine then mkL m (List.replicate k.toNat xs).flatten st else .no
    | none => .no
  | _, _ => .no
def dDiv (a b : D) (st : Store) : O D := match a, b with
  | .int i, .int j => if 0 < j ∧ j < 1073741824 then .ok (.int (i / j)) st else .no
  | _, _ => .no
def dMod (a b : D) (st : Store) : O D := match a, b with
  | .int i, .int j => if 0 < j then .ok (.int (i % j)) st else .no
  | _, _ => .no
def dPow (a b : D) (st : Store) : O D := match a, b with
  | .int i, .int j => if 0 ≤ j ∧ j ≤ 1000000 ∧ i.natAbs < 2 ^ 64 then .ok (.int (i ^ j.toNat)) st else .no
  | _, _ => .no
def dAnd (a b : D) (st : Store) : O D := match a, b with
  | .int i, .int j => .ok (.int (Builtin.bitAnd i j)) st
  | _, _ => .no
def dShr (a b : D) (st : Store) : O D := match a, b with
  | .int i, .int j => if 0 ≤ j then .ok (.int (i / 2 ^ j.toNat)) st else .no
  | _, _ => .no
def dNeg (a : D) (st : Store) : O D := match a with
  | .int i => .ok (.int (-i)) st
  | _ => .no
/-! ### order -/
def dLt (a b : D) (st : Store) : O D := match a, b with
  | .int i, .int j => .ok (.bl (decide (i < j))) st
  | .str x, .str y => .ok (.bl (decide (x.cps.toList < y.cps.toList))) st
  | _, _ => .no
def dLe (a b : D) (st : Store) : O D := match a, b with
  | .int i, .int j => .ok (.bl (decide (i ≤ j))) st
  | _, _ => .no
def dGt (a b : D) (st : Store) : O D := match a, b with
  | .int i, .int j => .ok (.bl (decide (j < i))) st
  | .str x, .str y => .ok (.bl (decide (y.cps.toList < x.cps.toList))) st
  | _, _ => .no
def dGe (a b : D) (st : Store) : O D := match a, b with
  | .int i, .int j => .ok (.bl (decide (j ≤ i))) st
  | _, _ => .no
/-! ### is -/
def isNon : D → Bool
  | .non => true
  | _ => false
def dIs (neg : Bool) (a b : D) (st : Store) : O D := match b with
  | .non => .ok (.bl (if neg then !isNon a else isNon a)) st
  | .bl y => match a with
    | .bl x => .ok (.bl (if neg then !decide (x = y) else decide (x = y))) st
    | _ => .no
  | _ => .no
/-! ### in -/
def flatD : D → Bool
  | .non => true
  | .bl _ => true
  | .int _ => true
  | .str _ => true
  | _ => false
def keyD : D → Option Key
  | .int i => some (.inl i)
  | .str s => some (.inr s)
  | _ => none
def dctOf (st : Store) : D → Option (List (Key × D))
  | .dct xs => some xs
  | .ref i => match st[i]? with
    | some (.dct xs) => some xs
    | _ => none
  | _ => none
def valD (kvs : List (Key × D)) (k : Key) : Option D := (kvs.find? fun kv => decide (kv.1 = k)).map (·.2)
def sgn (neg b : Bool) : Bool := if neg = true then !b else b
def dIn (neg : Bool) (a b : D) (st : Store) : O D := match b with
  | .str y => match a with
    | .str x => match x.cps.toList with
      | [c] => .ok (.bl (sgn neg (decide (c ∈ y.cps.toList)))) st
      | _ => .no
    | _ => .no
  | .tup ys => if flatD a = true ∧ ys.all flatD = true then .ok (.bl (sgn neg (ys.any fun y => eqD y a))) st else .no
  | b => match dctOf st b with
    | some kvs => match keyD a with
      | some k => .ok (.bl (sgn neg (valD kvs k).isSome)) st
      | none => .no
    | none => match deep 64 st a, deep 64 st b with
      | some x, some (.lst ys) => .ok (.bl (sgn neg (ys.any fun y => eqD y x))) st
      | _, _ => .no

section
variable {C : Cf} {X : Cx}
theorem snd_div : Snd2 C (fun x y H Q => ∃ r, OpR X (binaryOp .FloorDiv) r ∧ r x y H Q) dDiv := by
  intro μ st H x y a b W σ Q R da db h
  cases da with
  | int i =>
    cases db with
    | int j =>
      have h' : Post C Dat W σ Q st.length μ H (if 0 < j ∧ j < 1073741824 then .ok (.int (i / j)) st else .no) := h
      split at h'
      · rename_i hc
        exact ⟨_, op_fdiv, i, j, rfl, rfl, hc, Post.now R h' (.int _)⟩
      · exact False.elim h'
    | _ => exact False.elim h
  | _ => exact False.elim h
theorem snd_mod : Snd2 C (fun x y H Q => ∃ r, OpR X (binaryOp .Mod) r ∧ r x y H Q) dMod := by
  intro μ st H x y a b W σ Q R da db h
  cases da with
  | int i =>
    cases db with
    | int j =>
      have h' : Post C Dat W σ Q st.length μ H (if 0 < j then .ok (.int (i % j)) st else .no) := h
      split at h'
      · rename_i hc
        exact ⟨_, op_mod, i, j, rfl, rfl, hc, Post.now R h' (.int _)⟩
      · exact False.elim h'
    | _ => exact False.elim h
  | _ => exact False.elim h
theorem snd_pow : Snd2 C (fun x y H Q => ∃ r, OpR X (binaryOp .Pow) r ∧ r x y H Q) dPow := by
  intro μ st H x y a b W σ Q R da db h
  cases da with
  | int i =>
    cases db with
    | int j =>
      have h' : Post C Dat W σ Q st.length μ H (if 0 ≤ j ∧ j ≤ 1000000 ∧ i.natAbs < 2 ^ 64 then .ok (.int (i ^ j.toNat)) st else .no) := h
      split at h'
      · rename_i hc
        exact ⟨_, op_pow, i, j, rfl, rfl, hc, Post.now R h' (.int _)⟩
      · exact False.elim h'
    | _ => exact False.elim h
  | _ => exact False.elim h
theorem snd_and : Snd2 C (fun x y H Q => ∃ r, OpR X (binaryOp .BitAnd) r ∧ r x y H Q) dAnd := by
  intro μ st H x y a b W σ Q R da db h
  cases da with
  | int i =>
    cases db with
    | int j => exact ⟨_, op_and, i, j, rfl, rfl, Post.now R h (.int _)⟩
    | _ => exact False.elim h
  | _ => exact False.elim h
theorem snd_shr : Snd2 C (fun x y H Q => ∃ r, OpR X (binaryOp .RShift) r ∧ r x y H Q) dShr := by
  intro μ st H x y a b W σ Q R da db h
  cases da with
  | int i =>
    cases db with
    | int j =>
      have h' : Post C Dat W σ Q st.length μ H (if 0 ≤ j then .ok (.int (i / 2 ^ j.toNat)) st else .no) := h
      split at h'
      · rename_i hc
        exact ⟨_, op_shr, i, j, rfl, rfl, hc, Post.now R h' (.int _)⟩
      · exact False.elim h'
    | _ => exact False.elim h
  | _ => exact False.elim h
theorem snd_neg : Snd1 C (fun x H Q => ∃ r, UnR X (unaryOp .USub) r ∧ r x H Q) dNeg := by
  intro μ st H x a W σ Q R da h
  cases da with
  | int i => exact ⟨_, un_neg, i, rfl, Post.now R h (.int _)⟩
  | _ => exact False.elim h
/-- a text times 0 or 1 -/
def rMulS : R2 := fun x y H Q => ∃ z k, x = .str z ∧ y = .int k ∧ ((k ≤ 0 ∧ -1000 ≤ k ∧ Q (.str Str.empty) H) ∨ (k = 1 ∧ Q (.str z) H))
theorem op_mulS : OpR X (binaryOp .Mult) rMulS := by
  intro pins s σ H x y v u Q I rx ry h
  obtain ⟨z, k, rfl, rfl, h⟩ := h
  obtain ⟨t, rfl⟩ := rx
  obtain ⟨t', rfl⟩ := ry
  rcases h with ⟨h0, h1, q⟩ | ⟨rfl, q⟩
  · exact PySem.P.mul_str_none (by omega) (by omega) ⟨.str Str.empty, H, I.tok _, ⟨_, rfl⟩, q⟩
  · refine PySem.P.mul_str (by decide) (fun _ z => by cases z) (fun _ z => by cases z) ?_
    rw [if_neg (by decide), if_pos (by simp)]
    exact ⟨.str z, H, I, ⟨_, rfl⟩, q⟩
theorem mem_rep_flat {α : Type} {x : α} {xs : List α} : ∀ {k : Nat}, x ∈ (List.replicate k xs).flatten → x ∈ xs
  | 0, h => by simp at h
  | k + 1, h => by
    rw [List.replicate_succ, List.flatten_cons, List.mem_append] at h
    exact h.elim id mem_rep_flat
theorem DatL.rep {K : PySem.W.Frag} {n : Nat} {μ : Mu} {H : Hp} {vs : List V} {xs : List D} (h : DatL K n μ H vs xs) : ∀ k : Nat, DatL K n μ H (List.replicate k vs).flatten (List.replicate k xs).flatten
  | 0 => .nil
  | k + 1 => by
    rw [List.replicate_succ, List.replicate_succ, List.flatten_cons, List.flatten_cons]
    exact h.append (DatL.rep h k)
theorem snd_mul (m : Bool) : Snd2 C (fun x y H Q => ∃ r, OpR X (binaryOp .Mult) r ∧ r x y H Q) (dMul m) := by
  intro μ st H x y a b W σ Q R da db h
  cases db with
  | int k =>
    have rest : Post C Dat W σ Q st.length μ H (match lstOf st a with
        | some xs => if -1000 ≤ k ∧ k ≤ 1000 ∧ xs.length * k.toNat ≤ sizeLine then mkL m (List.replicate k.toNat xs).flatten st else .no
        | none => .no) → ∃ r, OpR X (binaryOp .Mult) r ∧ r x (.int k) H Q := fun h => by
      cases ea : lstOf st a with
      | none => rw [ea] at h; exact False.elim h
      | some xs =>
        rw [ea] at h
        dsimp only at h
        split at h
        · rename_i hc
          obtain ⟨p, vs, rfl, hp, hv, _⟩ := lstOf_ok R da ea
          exact ⟨_, op_rep, p, k, vs, rfl, rfl, hp, by omega, by omega, by rw [hv.length]; exact hc.2.2, fun z hz => newL R h (hv.rep _) hz⟩
        · exact False.elim h
    cases da with
    | int i =>
      have h' : Post C Dat W σ Q st.length μ H (if (-(2 ^ 64) < i ∧ i < 2 ^ 64) ∨ (-(2 ^ 64) < k ∧ k < 2 ^ 64) then .ok (.int (i * k)) st else .no) := h
      split at h'
      · rename_i hc
        exact ⟨_, op_mul, i, k, rfl, rfl, hc, Post.now R h' (.int _)⟩
      · exact False.elim h'
    | @str z hl ok =>
      have h' : Post C Dat W σ Q st.length μ H (if k ≤ 0 ∧ -1000 ≤ k then .ok (.str Str.empty) st else if k = 1 then .ok (.str z) st else .no) := h
      split at h'
      · rename_i hc
        exact ⟨_, op_mulS, z, k, rfl, rfl, .inl ⟨hc.1, hc.2, Post.now R h' (.str (Nat.zero_le _) (by decide +kernel))⟩⟩
      · split at h'
        · rename_i hc
          exact ⟨_, op_mulS, z, k, rfl, rfl, .inr ⟨hc, Post.now R h' (.str hl ok)⟩⟩
        · exact False.elim h'
    | _ => exact rest h
  | _ => cases da <;> exact False.elim h
theorem snd_lt : Snd2 C (fun x y H Q => ∃ r, OpR X (compareOp .Lt) r ∧ r x y H Q) dLt := by
  intro μ st H x y a b W σ Q R da db h
  cases da with
  | int i =>
    cases db with
    | int j => exact ⟨_, op_lt, i, j, rfl, rfl, Post.now R h (.bl _)⟩
    | _ => exact False.elim h
  | str hl ok =>
    cases db with
    | str hl' ok' => exact ⟨_, op_lt_str, _, _, rfl, rfl, Post.now R h (.bl _)⟩
    | _ => exact False.elim h
  | _ => exact False.elim h
theorem snd_gt : Snd2 C (fun x y H Q => ∃ r, OpR X (compareOp .Gt) r ∧ r x y H Q) dGt := by
  intro μ st H x y a b W σ Q R da db h
  cases da with
  | int i =>
    cases db with
    | int j => exact ⟨_, op_gt, i, j, rfl, rfl, Post.now R h (.bl _)⟩
    | _ => exact False.elim h
  | str hl ok =>
    cases db with
    | str hl' ok' => exact ⟨_, op_gt_str, _, _, rfl, rfl, Post.now R h (.bl _)⟩
    | _ => exact False.elim h
  | _ => exact False.elim h
theorem snd_le : Snd2 C (fun x y H Q => ∃ r, OpR X (compareOp .LtE) r ∧ r x y H Q) dLe := by
  intro μ st H x y a b W σ Q R da db h
  cases da with
  | int i =>
    cases db with
    | int j => exact ⟨_, op_le, i, j, rfl, rfl, Post.now R h (.bl _)⟩
    | _ => exact False.elim h
  | _ => exact False.elim h
theorem snd_ge : Snd2 C (fun x y H Q => ∃ r, OpR X (compareOp .GtE) r ∧ r x y H Q) dGe := by
  intro μ st H x y a b W σ Q R da db h
  cases da with
  | int i =>
    cases db with
    | int j => exact ⟨_, op_ge, i, j, rfl, rfl, Post.now R h (.bl _)⟩
    | _ => exact False.elim h
  | _ => exact False.elim h
theorem isNon_of {K : PySem.W.Frag} {n : Nat} {μ : Mu} {H : Hp} {v : V} {d : D} (h : Dat K n μ H v d) : decide (v = V.non) = isNon d := by
  cases h <;> simp [isNon]
theorem snd_is : Snd2 C (fun x y H Q => ∃ r, OpR X (compareOp .Is) r ∧ r x y H Q) (dIs false) := by
  intro μ st H x y a b W σ Q R da db h
  cases db with
  | non => exact ⟨_, op_isN, rfl, by rw [isNon_of da]; exact Post.now R h (.bl _)⟩
  | bl y =>
    cases da with
    | bl x => exact ⟨_, op_isBl, x, y, rfl, rfl, Post.now R h (.bl _)⟩
    | _ => exact False.elim h
  | _ => exact False.elim h
theorem snd_isnot : Snd2 C (fun x y H Q => ∃ r, OpR X (compareOp .IsNot) r ∧ r x y H Q) (dIs true) := by
  intro μ st H x y a b W σ Q R da db h
  cases db with
  | non => exact ⟨_, op_notN, rfl, by rw [isNon_of da]; exact Post.now R h (.bl _)⟩
  | bl y =>
    cases da with
    | bl x => exact ⟨_, op_notBl, x, y, rfl, rfl, Post.now R h (.bl _)⟩
    | _ => exact False.elim h
  | _ => exact False.elim h
end
end Mi
/-! Mi5: in, subscripts, slices, truth. -/
namespace Mi
open PySem L2

section
variable {C : Cf} {X : Cx} {μ : Mu} {st : Store} {H : Hp}
theorem flat_of {K : PySem.W.Frag} {n : Nat} {v : V} {d : D} (h : Dat K n μ H v d) (f : flatD d = true) : flatV v = true := by
  cases h <;> first | rfl | cases f
theorem flats_of {K : PySem.W.Frag} {n : Nat} : ∀ {vs : List V} {ds : List D}, DatL K n μ H vs ds → ds.all flatD = true → vs.all flatV = true
  | _, _, .nil, _ => rfl
  | _, _, .cons h t, f => by
    rw [List.all_cons, Bool.and_eq_true] at f ⊢
    exact ⟨flat_of h f.1, flats_of t f.2⟩
theorem eq_of_flat {K : PySem.W.Frag} {n : Nat} {v w : V} {d e : D} (h : Dat K n μ H v d) (h' : Dat K n μ H w e) (f : flatD d = true) (f' : flatD e = true) : eqV v w = eqD d e := by
  cases h <;> first | exact absurd f Bool.false_ne_true | (cases h' <;> first | exact absurd f' Bool.false_ne_true | rfl | simp [eqV, eqD, toPy, PyData.eqv])
theorem any_of_flat {K : PySem.W.Frag} {n : Nat} {w : V} {e : D} (h' : Dat K n μ H w e) (f' : flatD e = true) : ∀ {vs : List V} {ds : List D}, DatL K n μ H vs ds → ds.all flatD = true → inV w vs = ds.any fun y => eqD y e
  | _, _, .nil, _ => rfl
  | _, _, .cons h t, f => by
    rw [List.all_cons, Bool.and_eq_true] at f
    have := any_of_flat h' f' t f.2
    unfold inV at this ⊢
    rw [List.any_cons, List.any_cons, this, eq_of_flat h h' f.1 f']
theorem dctOf_ok (R : C.Rel μ st H) {v : V} {d : D} {xs : List (Key × D)} (h : Dat C.K st.length μ H v d) (e : dctOf st d = some xs) : ∃ a vs, v = .ref a ∧ H a = some (.dK vs) ∧ DatK C.K st.length μ H vs xs ∧ xs.length ≤ sizeLine := by
  cases h with
  | dct h nl hl hs => cases e; exact ⟨_, _, rfl, h, hs, hl⟩
  | @ref i hi =>
    have e' : (match st[i]? with | some (.dct xs) => some xs | _ => none) = some xs := e
    cases q : st[i]? with
    | none => rw [q] at e'; cases e'
    | some o =>
      rw [q] at e'
      cases o with
      | dct ys =>
        cases e'
        obtain ⟨vs, h1, h2, h3⟩ := R.obj i _ q
        exact ⟨_, vs, rfl, h1, h2, h3⟩
      | lst _ => cases e'
      | ins _ _ => cases e'
  | _ => cases e
theorem key_of {K : PySem.W.Frag} {n : Nat} {v : V} {d : D} {k : Key} (h : Dat K n μ H v d) (e : keyD d = some k) : v = kV k := by
  cases h <;> cases e <;> rfl
theorem val_of {K : PySem.W.Frag} {n : Nat} (k : Key) : ∀ {vs : List (Key × V)} {ds : List (Key × D)}, DatK K n μ H vs ds → (valV vs k = none ∧ valD ds k = none) ∨ ∃ v d, valV vs k = some v ∧ valD ds k = some d ∧ Dat K n μ H v d
  | _, _, .nil => .inl ⟨rfl, rfl⟩
  | _, _, .cons (k := k') (v := v) (d := d) h t => by
    by_cases e : k' = k
    · subst e
      exact .inr ⟨v, d, by simp [valV], by simp [valD], h⟩
    · rcases val_of k t with ⟨h1, h2⟩ | ⟨v, d, h1, h2, h3⟩
      · refine .inl ⟨?_, ?_⟩
        · unfold valV at h1 ⊢
          rw [List.find?_cons_of_neg (by simpa using e)]; exact h1
        · unfold valD at h2 ⊢
          rw [List.find?_cons_of_neg (by simpa using e)]; exact h2
      · refine .inr ⟨v, d, ?_, ?_, h3⟩
        · unfold valV at h1 ⊢
          rw [List.find?_cons_of_neg (by simpa using e)]; exact h1
        · unfold valD at h2 ⊢
          rw [List.find?_cons_of_neg (by simpa using e)]; exact h2
theorem val_isSome {K : PySem.W.Frag} {n : Nat} {vs : List (Key × V)} {ds : List (Key × D)} (k : Key) (h : DatK K n μ H vs ds) : (valV vs k).isSome = (valD ds k).isSome := by
  rcases val_of k h with ⟨h1, h2⟩ | ⟨v, d, h1, h2, _⟩ <;> rw [h1, h2] <;> rfl
theorem op_inDct (hu : X.A.units + 1 < cLine) : OpR X (compareOp .In) (fun x y H Q => ∃ a o, y = .ref a ∧ DGet H a x o ∧ Q (.bl o.isSome) H) := by
  intro pins s σ H x y v u Q I rx ry h
  obtain ⟨a, o, rfl, g, q⟩ := h
  obtain rfl : u = Value.ref a := ry
  exact d_in hu I g rx fun s3 I3 => ⟨.bl o.isSome, H, I3, rfl, q⟩
theorem op_notInDct (hu : X.A.units + 1 < cLine) : OpR X (compareOp .NotIn) (fun x y H Q => ∃ a o, y = .ref a ∧ DGet H a x o ∧ Q (.bl (!o.isSome)) H) := by
  intro pins s σ H x y v u Q I rx ry h
  obtain ⟨a, o, rfl, g, q⟩ := h
  obtain rfl : u = Value.ref a := ry
  exact d_notIn hu I g rx fun s3 I3 => ⟨.bl (!o.isSome), H, I3, rfl, q⟩
theorem str_one {x : Str} {c : Nat} (h : x.cps.toList = [c]) : x = ⟨#[c]⟩ := by
  cases x with
  | mk cps =>
    congr
    exact Array.toList_inj.mp h
def inOp : Bool → CmpOp
  | true => .NotIn
  | false => .In
theorem snd_in (hK : X.K = C.K) (hu : X.A.units + 65 < cLine) (neg : Bool) : Snd2 C (fun x y H Q => ∃ r, OpR X (compareOp (inOp neg)) r ∧ r x y H Q) (dIn neg) := by
  intro μ st H x y a b W σ Q R da db h
  have rest : Post C Dat W σ Q st.length μ H (match dctOf st b with
    | some kvs => match keyD a with
      | some k => .ok (.bl (sgn neg (valD kvs k).isSome)) st
      | none => .no
    | none => match deep 64 st a, deep 64 st b with
      | some x, some (.lst ys) => .ok (.bl (sgn neg (ys.any fun y => eqD y x))) st
      | _, _ => .no) → ∃ r, OpR X (compareOp (inOp neg)) r ∧ r x y H Q := fun h => by
    cases e : dctOf st b with
    | some kvs =>
      rw [e] at h
      cases ek : keyD a with
      | none => rw [ek] at h; exact False.elim h
      | some k =>
        rw [ek] at h
        obtain ⟨p, vs, rfl, hp, hv, _⟩ := dctOf_ok R db e
        have hx := key_of da ek
        subst hx
        have g : DGet H p (kV k) (valV vs k) := .inl ⟨vs, k, .inl hp, rfl, rfl⟩
        have q := Post.now R h (.bl _)
        rw [← val_isSome k hv] at q
        cases neg with
        | false => exact ⟨_, op_inDct (by omega), p, _, rfl, g, q⟩
        | true => exact ⟨_, op_notInDct (by omega), p, _, rfl, g, q⟩
    | none =>
      rw [e] at h
      cases ea : deep 64 st a with
      | none => rw [ea] at h; exact False.elim h
      | some a' =>
        cases eb : deep 64 st b with
        | none => rw [ea, eb] at h; exact False.elim h
        | some b' =>
          rw [ea, eb] at h
          have fa := deep_ok R 64 x a a' da ea
          have fb := deep_ok R 64 y b b' db eb
          cases b' with
          | lst ys =>
            have q := Post.now R h (.bl _)
            have ey : (toPys ys).any (fun z => PyData.eqv z (toPy a')) = ys.any fun y => eqD y a' := by
              rw [toPys_map, List.any_map]; rfl
            cases neg with
            | false => exact ⟨_, op_inD hu, toPy a', toPys ys, by rw [hK]; exact fa.1, by rw [hK]; exact fb.1, fa.shaped, fb.shaped, by rw [ey]; exact q⟩
            | true => exact ⟨_, op_notInD hu, toPy a', toPys ys, by rw [hK]; exact fa.1, by rw [hK]; exact fb.1, fa.shaped, fb.shaped, by rw [ey]; exact q⟩
          | _ => exact False.elim h
  cases db with
  | @str y hl ok =>
    cases da with
    | @str x hl' ok' =>
      have h' : Post C Dat W σ Q st.length μ H (match x.cps.toList with
        | [c] => .ok (.bl (sgn neg (decide (c ∈ y.cps.toList)))) st
        | _ => .no) := h
      split at h'
      · rename_i c e
        have ex := str_one e
        have q := Post.now R h' (.bl _)
        cases neg with
        | false => exact ⟨_, op_in_sign, c, y, by rw [ex], rfl, q⟩
        | true => exact ⟨_, op_notIn_sign, c, y, by rw [ex], rfl, q⟩
      · exact False.elim h'
    | _ => exact False.elim h
  | @tup p vs ys hT hl hs =>
    have h' : Post C Dat W σ Q st.length μ H (if flatD a = true ∧ ys.all flatD = true then .ok (.bl (sgn neg (ys.any fun y => eqD y a))) st else .no) := h
    split at h'
    · rename_i hc
      have q := Post.now R h' (.bl _)
      rw [← any_of_flat da hc.1 hs hc.2] at q
      cases neg with
      | false => exact ⟨_, op_in_seq, p, vs, rfl, .inr (by rw [hK]; exact hT), flat_of da hc.1, flats_of hs hc.2, q⟩
      | true => exact ⟨_, op_notIn_seq, p, vs, rfl, .inr (by rw [hK]; exact hT), flat_of da hc.1, flats_of hs hc.2, q⟩
    · exact False.elim h'
  | _ => exact rest h

/-! ### subscripts -/
theorem ix_dct (hu : X.A.units + 1 < cLine) : IxR X (fun x y H Q => ∃ a v, x = .ref a ∧ DGet H a y (some v) ∧ Q v H) := by
  intro value slice pins s σ H x y v u Q I rx ry h hs
  obtain ⟨a, w, rfl, g, q⟩ := h
  obtain rfl : v = Value.ref a := rx
  exact PyProof.Rows.tail_any (dict_typeIs I g) PySem.F.slot_dict_getitem.lookup (d_getItem hu I g ry fun w' s3 I3 rw' => ⟨w, H, I3, rw', q⟩) hs
end
def dIx (a b : D) (st : Store) : O D := match dctOf st a with
  | some kvs => match keyD b with
    | some k => match valD kvs k with
      | some d => .ok d st
      | none => .no
    | none => .no
  | none => match b with
    | .int i => match a with
      | .str s => match atI s.cps.toList i with
        | some c => .ok (.str ⟨#[c]⟩) st
        | none => .no
      | a => match seqOf st a with
        | some xs => match atI xs i with
          | some d => .ok d st
          | none => .no
        | none => .no
    | _ => .no
section
variable {C : Cf} {X : Cx} {μ : Mu} {st : Store} {H : Hp}
theorem atI_map {α β : Type} {xs : List α} {ys : List β} (hl : xs.length = ys.length) {i : Int} {y : β} (h : atI ys i = some y) : ∃ j : Nat, ys[j]? = some y ∧ ∀ x, xs[j]? = some x → atI xs i = some x := by
  unfold atI at h ⊢
  rw [hl]
  cases e : ixN ys.length i with
  | none => rw [e] at h; cases h
  | some j =>
    rw [e] at h
    exact ⟨j, h, fun x hx => hx⟩
theorem mem_atI {α : Type} {xs : List α} {i : Int} {x : α} (h : atI xs i = some x) : x ∈ xs := by
  unfold atI at h
  cases e : ixN xs.length i with
  | none => rw [e] at h; cases h
  | some j => rw [e] at h; exact List.mem_of_getElem? h
theorem strOk_mem {s : Str} (h : PyData.strOk s = true) {c : Nat} (hc : c ∈ s.cps.toList) : c < 0x110000 := by
  unfold PyData.strOk at h
  rw [← Array.all_toList, List.all_eq_true] at h
  simpa using h c hc
theorem strOk_list {l : List Nat} (h : ∀ c ∈ l, c < 0x110000) : PyData.strOk ⟨l.toArray⟩ = true := by
  unfold PyData.strOk
  rw [← Array.all_toList, List.all_eq_true]
  simpa using h
theorem snd_ix (hK : X.K = C.K) (hu : X.A.units + 65 < cLine) : Snd2 C (fun x y H Q => ∃ r, IxR X r ∧ r x y H Q) dIx := by
  intro μ st H x y a b W σ Q R da db h
  unfold dIx at h
  cases e : dctOf st a with
  | some kvs =>
    rw [e] at h
    cases ek : keyD b with
    | none => rw [ek] at h; exact False.elim h
    | some k =>
      rw [ek] at h
      obtain ⟨p, vs, rfl, hp, hv, _⟩ := dctOf_ok R da e
      have hy := key_of db ek
      subst hy
      dsimp only at h
      rcases val_of k hv with ⟨h1, h2⟩ | ⟨v, d, h1, h2, h3⟩
      · rw [h2] at h; exact False.elim h
      · rw [h2] at h
        exact ⟨_, ix_dct (by omega), p, v, rfl, .inl ⟨vs, k, .inl hp, rfl, h1.symm⟩, Post.now R h h3⟩
  | none =>
    rw [e] at h
    cases db with
    | int i =>
      have rest : Post C Dat W σ Q st.length μ H (match seqOf st a with
        | some xs => match atI xs i with
          | some d => .ok d st
          | none => .no
        | none => .no) → ∃ r, IxR X r ∧ r x (.int i) H Q := fun h => by
        cases es : seqOf st a with
        | none => rw [es] at h; exact False.elim h
        | some xs =>
          rw [es] at h
          cases ei : atI xs i with
          | none => simp only [ei] at h; exact False.elim h
          | some d =>
            simp only [ei] at h
            obtain ⟨p, vs, rfl, hp, hv, _⟩ := seqOf_ok R da es
            obtain ⟨j, hj, hx⟩ := atI_map hv.length ei
            obtain ⟨v, hvj, hvd⟩ := hv.get hj
            rcases hp with hp | hp
            · exact ⟨_, ix_list, p, vs, i, v, rfl, rfl, by rw [hK]; exact hp, hx v hvj, Post.now R h hvd⟩
            · exact ⟨_, ix_tup, p, vs, i, v, rfl, rfl, by rw [hK]; exact hp, hx v hvj, Post.now R h hvd⟩
      cases da with
      | @str z hl ok =>
        have h' : Post C Dat W σ Q st.length μ H (match atI z.cps.toList i with
          | some c => .ok (.str ⟨#[c]⟩) st
          | none => .no) := h
        cases ei : atI z.cps.toList i with
        | none => rw [ei] at h'; exact False.elim h'
        | some c =>
          rw [ei] at h'
          exact ⟨_, ix_str, z, i, c, rfl, rfl, hl, ei, Post.now R h' (.str (by show 1 ≤ _; decide) (strOk_list (l := [c]) (by simpa using strOk_mem ok (mem_atI ei))))⟩
      | _ => exact rest h
    | _ => exact False.elim h

/-! ### slices -/
def mPart (a : M D) : M (Option Int) := fun ρ st => (a ρ st).bind fun d st1 => match d with
  | .int i => .ok (some i) st1
  | _ => .no
def mNoPart : M (Option Int) := fun _ st => .ok none st
def cutD (xs : List D) (lo hi : Option Int) : List D := (xs.drop (HT.sIx xs.length 0 lo)).take (HT.sIx xs.length xs.length hi - HT.sIx xs.length 0 lo)
def dSl (m : Bool) (a : D) (lo hi : Option Int) (st : Store) : O D := match a with
  | .str s => .ok (.str (cutS s lo hi)) st
  | .tup xs => .ok (.tup (cutD xs lo hi)) st
  | a => match seqOf st a with
    | some xs => mkL m (cutD xs lo hi) st
    | none => .no
def mSl (m : Bool) (a : M D) (lo hi : M (Option Int)) : M D := fun ρ st => (a ρ st).bind fun x st1 => (lo ρ st1).bind fun l st2 => (hi ρ st2).bind fun h st3 => dSl m x l h st3
theorem po_noneD {W : WX} : PO X none (TDO C W mNoPart) := po_none.imp fun σ H Q ⟨μ, ρ, st, R, E, h⟩ => h none μ H Ext.refl R rfl
theorem po_someD {W : WX} {e : Expr} {m : M D} (h : PE X e (TD C W m)) : PO X (some e) (TDO C W (mPart m)) := (po_some h).imp fun σ H Q ⟨μ, ρ, st, R, E, h⟩ => by
  refine ⟨μ, ρ, st, R, E, (Post.bind (R := Dat) h).imp fun v H1 ⟨a, st1, μ1, _, e1, R1, d1, h1⟩ => ?_⟩
  cases d1 with
  | int i => exact ⟨i, rfl, h1 (some i) μ1 H1 Ext.refl R1 rfl⟩
  | _ => exact False.elim h1
theorem DatL.cut {K : PySem.W.Frag} {n : Nat} {vs : List V} {ds : List D} (h : DatL K n μ H vs ds) (lo hi : Option Int) : DatL K n μ H (cutV vs lo hi) (cutD ds lo hi) := by
  unfold cutV cutD
  rw [h.length]
  exact (h.drop _).take _
theorem cutS_ok {s : Str} (h : PyData.strOk s = true) (lo hi : Option Int) : PyData.strOk (cutS s lo hi) = true :=
  strOk_list fun c hc => strOk_mem h (List.mem_of_mem_drop (List.mem_of_mem_take hc))
theorem snd_sl (hK : X.K = C.K) (m : Bool) {W : WX} {σ : L2.St} {Q : VK} {x : V} {a : D} {lo hi : Option Int} (R : C.Rel μ st H) (da : Dat C.K st.length μ H x a) (h : Post C Dat W σ Q st.length μ H (dSl m a lo hi st)) : ∃ r, SlR X r ∧ r x lo hi H Q := by
  have rest : Post C Dat W σ Q st.length μ H (match seqOf st a with
      | some xs => mkL m (cutD xs lo hi) st
      | none => .no) → (∀ xs, a ≠ .tup xs) → ∃ r, SlR X r ∧ r x lo hi H Q := fun hh hn => by
    cases es : seqOf st a with
    | none => rw [es] at hh; exact False.elim hh
    | some xs =>
      rw [es] at hh
      dsimp only at hh
      clear h
      have da' := da
      cases da with
      | tup h' hl hs => exact absurd rfl (hn _)
      | frz h' hl hs => cases es; exact ⟨_, sl_list, _, _, rfl, by rw [hK]; exact h'.sq, fun z hz => newL R hh (hs.cut lo hi) hz⟩
      | lst h' nl hl hs => cases es; exact ⟨_, sl_list, _, _, rfl, .of h', fun z hz => newL R hh (hs.cut lo hi) hz⟩
      | ref hi' =>
        obtain ⟨p, vs, e1, hp, hv, _⟩ := lstOf_ok R da' (show lstOf st (.ref _) = some xs from es)
        exact ⟨_, sl_list, p, vs, e1, .of hp, fun z hz => newL R hh (hv.cut lo hi) hz⟩
      | _ => cases es
  cases da with
  | str hl ok => exact ⟨_, sl_str, _, rfl, hl, Post.now R h (.str (Nat.le_trans (cutS_length _ lo hi) hl) (cutS_ok ok lo hi))⟩
  | @tup p vs ys hT hl hs =>
    have hl' : (cutD ys lo hi).length ≤ sizeLine := by
      unfold cutD
      rw [List.length_take, List.length_drop]; omega
    have h' : Post C Dat W σ Q st.length μ H (mkT (cutD ys lo hi) st) := by
      unfold mkT
      rw [if_pos hl']; exact h
    refine ⟨_, sl_tupA, p, vs, rfl, by rw [hK]; exact hT, ?_⟩
    unfold mkT at h'
    rw [if_pos hl'] at h'
    refine ⟨fun e => ?_, fun _ z hz => newT R (by unfold mkT; rw [if_pos hl']; exact h') (hs.cut lo hi) hz⟩
    have : cutD ys lo hi = ys := by
      unfold cutD
      rw [← hs.length, e.1, e.2, List.drop_zero, Nat.sub_zero, hs.length]
      exact List.take_length
    refine Post.now R h' ?_
    rw [this]
    exact .tup hT hl hs
  | _ => exact rest h (fun _ z => by cases z)
end
end Mi
/-! Mi6: truth, built-in calls and methods. -/
namespace Mi
open PySem L2

/-! ### truth -/
def dTru (d : D) (st : Store) : Option Bool := match d with
  | .non => some false
  | .bl b => some b
  | .int i => some (i != 0)
  | .str s => some ((s.length : Int) != 0)
  | d => match dctOf st d with
    | some kvs => some (!kvs.isEmpty)
    | none => match seqOf st d with
      | some xs => some (!xs.isEmpty)
      | none => none
def mTru (a : M D) : M Bool := fun ρ st => (a ρ st).bind fun d st1 => match dTru d st1 with
  | some b => .ok b st1
  | none => .no
section
variable {C : Cf} {X : Cx} {μ : Mu} {st : Store} {H : Hp} {W : WX}
theorem isEmpty_len {α β : Type} {xs : List α} {ys : List β} (h : xs.length = ys.length) : xs.isEmpty = ys.isEmpty := by
  cases xs <;> cases ys <;> first | rfl | cases h
theorem tru_of (R : C.Rel μ st H) {v : V} {d : D} {b : Bool} (h : Dat C.K st.length μ H v d) (e : dTru d st = some b) : TruV C.K v H b := by
  have rest : (match dctOf st d with
    | some kvs => some (!kvs.isEmpty)
    | none => match seqOf st d with
      | some xs => some (!xs.isEmpty)
      | none => none) = some b → TruV C.K v H b := fun e => by
    cases q : dctOf st d with
    | some kvs =>
      rw [q] at e
      cases e
      obtain ⟨a, vs, rfl, ha, hv, _⟩ := dctOf_ok R h q
      exact .inr (.inr ⟨vs, ha, by rw [isEmpty_len hv.length]⟩)
    | none =>
      rw [q] at e
      cases q2 : seqOf st d with
      | none => rw [q2] at e; cases e
      | some xs =>
        rw [q2] at e
        cases e
        obtain ⟨a, vs, rfl, ha, hv, _⟩ := seqOf_ok R h q2
        rcases ha with ha | ha
        · exact .inl ⟨vs, ha, by rw [isEmpty_len hv.length]⟩
        · exact .inr (.inl ⟨vs, ha, by rw [isEmpty_len hv.length]⟩)
  cases h with
  | non => cases e; rfl
  | bl x => cases e; rfl
  | int i => cases e; rfl
  | str hl ok => cases e; exact ⟨hl, rfl⟩
  | _ => exact rest e
theorem pt_truD {a : Expr} {m : M D} (hK : X.K = C.K) (ha : PE X a (TD C W m)) (he : ∀ whole, isTrue a X.env whole = (do let v ← whole; standAt a.pos; holding [v] (truthy v))) : PT X a (TDT C W (mTru m)) :=
  (pt_truth ha he).imp fun σ H Q ⟨μ, ρ, st, R, E, h⟩ => by
    refine ⟨μ, ρ, st, R, E, (Post.bind (R := Dat) h).imp fun v H1 ⟨a, st1, μ1, _, e1, R1, d1, h1⟩ => ?_⟩
    cases q : dTru a st1 with
    | none => simp only [q] at h1; exact False.elim h1
    | some b =>
      simp only [q] at h1
      exact ⟨b, by rw [hK]; exact tru_of R1 d1 q, h1 b μ1 H1 Ext.refl R1 rfl⟩
/-! ### and, or, not -/
def mAndT (a b : M Bool) : M Bool := fun ρ st => (a ρ st).bind fun x st1 => if x = true then b ρ st1 else .ok false st1
def mOrT (a b : M Bool) : M Bool := fun ρ st => (a ρ st).bind fun x st1 => if x = true then .ok true st1 else b ρ st1
def mNotT (a : M Bool) : M Bool := fun ρ st => (a ρ st).bind fun x st1 => .ok (!x) st1
def mIfE (c : M Bool) (a b : M D) : M D := fun ρ st => (c ρ st).bind fun x st1 => if x = true then a ρ st1 else b ρ st1
def mIfT (c : M Bool) (a b : M Bool) : M Bool := fun ρ st => (c ρ st).bind fun x st1 => if x = true then a ρ st1 else b ρ st1
theorem td_and {a b : M Bool} {σ : L2.St} {Q : Bool → Hp → Prop} (h : TDT C W (mAndT a b) σ H Q) : tAnd (TDT C W a) (TDT C W b) σ H Q := by
  obtain ⟨μ, ρ, st, R, E, h⟩ := h
  refine ⟨μ, ρ, st, R, E, (Post.bind (R := RB) h).imp fun v H1 ⟨x, st1, μ1, _, e1, R1, d1, h1⟩ => ?_⟩
  subst d1
  cases v with
  | true => exact iteT ⟨μ1, ρ, st1, R1, E.ext e1, h1⟩
  | false => exact iteF (h1 false μ1 H1 Ext.refl R1 rfl)
theorem td_or {a b : M Bool} {σ : L2.St} {Q : Bool → Hp → Prop} (h : TDT C W (mOrT a b) σ H Q) : tOr (TDT C W a) (TDT C W b) σ H Q := by
  obtain ⟨μ, ρ, st, R, E, h⟩ := h
  refine ⟨μ, ρ, st, R, E, (Post.bind (R := RB) h).imp fun v H1 ⟨x, st1, μ1, _, e1, R1, d1, h1⟩ => ?_⟩
  subst d1
  cases v with
  | true => exact iteT (h1 true μ1 H1 Ext.refl R1 rfl)
  | false => exact iteF ⟨μ1, ρ, st1, R1, E.ext e1, h1⟩
theorem td_not {a : M Bool} {σ : L2.St} {Q : Bool → Hp → Prop} (h : TDT C W (mNotT a) σ H Q) : tNot (TDT C W a) σ H Q := by
  obtain ⟨μ, ρ, st, R, E, h⟩ := h
  refine ⟨μ, ρ, st, R, E, (Post.bind (R := RB) h).imp fun v H1 ⟨x, st1, μ1, _, e1, R1, d1, h1⟩ => ?_⟩
  subst d1
  exact h1 (!v) μ1 H1 Ext.refl R1 rfl
theorem pe_ifD {c a b : Expr} {pos : Pos} {mc : M Bool} {ma mb : M D} (hc : PT X c (TDT C W mc)) (ha : PE X a (TD C W ma)) (hb : PE X b (TD C W mb)) : PE X (.IfExp c a b pos) (TD C W (mIfE mc ma mb)) :=
  (pe_ifExp hc ha hb).imp fun σ H Q ⟨μ, ρ, st, R, E, h⟩ => by
    refine ⟨μ, ρ, st, R, E, (Post.bind (R := RB) h).imp fun v H1 ⟨x, st1, μ1, _, e1, R1, d1, h1⟩ => ?_⟩
    subst d1
    cases v with
    | true => exact iteT ⟨μ1, ρ, st1, R1, E.ext e1, h1⟩
    | false => exact iteF ⟨μ1, ρ, st1, R1, E.ext e1, h1⟩
/-- as values, by truth -/
def mAndV (a b : M D) : M D := fun ρ st => (a ρ st).bind fun x st1 => match dTru x st1 with
  | some true => b ρ st1
  | some false => .ok x st1
  | none => .no
def mOrV (a b : M D) : M D := fun ρ st => (a ρ st).bind fun x st1 => match dTru x st1 with
  | some true => .ok x st1
  | some false => b ρ st1
  | none => .no
def mNotV (a : M D) : M D := fun ρ st => (a ρ st).bind fun x st1 => match dTru x st1 with
  | some b => .ok (.bl (!b)) st1
  | none => .no
theorem td_andV {a b : M D} (hK : X.K = C.K) {σ : L2.St} {Q : VK} (h : TD C W (mAndV a b) σ H Q) : tAndT X.K (TD C W a) (TD C W b) σ H Q := by
  obtain ⟨μ, ρ, st, R, E, h⟩ := h
  refine ⟨μ, ρ, st, R, E, (Post.bind (R := Dat) h).imp fun v H1 ⟨x, st1, μ1, _, e1, R1, d1, h1⟩ => ?_⟩
  cases q : dTru x st1 with
  | none => simp only [q] at h1; exact False.elim h1
  | some k =>
    refine ⟨k, by rw [hK]; exact tru_of R1 d1 q, ?_⟩
    cases k with
    | true => simp only [q] at h1; exact iteT ⟨μ1, ρ, st1, R1, E.ext e1, h1⟩
    | false => simp only [q] at h1; exact iteF (Post.now R1 h1 d1)
theorem td_orV {a b : M D} (hK : X.K = C.K) {σ : L2.St} {Q : VK} (h : TD C W (mOrV a b) σ H Q) : tOrT X.K (TD C W a) (TD C W b) σ H Q := by
  obtain ⟨μ, ρ, st, R, E, h⟩ := h
  refine ⟨μ, ρ, st, R, E, (Post.bind (R := Dat) h).imp fun v H1 ⟨x, st1, μ1, _, e1, R1, d1, h1⟩ => ?_⟩
  cases q : dTru x st1 with
  | none => simp only [q] at h1; exact False.elim h1
  | some k =>
    refine ⟨k, by rw [hK]; exact tru_of R1 d1 q, ?_⟩
    cases k with
    | true => simp only [q] at h1; exact iteT (Post.now R1 h1 d1)
    | false => simp only [q] at h1; exact iteF ⟨μ1, ρ, st1, R1, E.ext e1, h1⟩
theorem td_notV {a : M D} (hK : X.K = C.K) {σ : L2.St} {Q : VK} (h : TD C W (mNotV a) σ H Q) : tNotT X.K (TD C W a) σ H Q := by
  obtain ⟨μ, ρ, st, R, E, h⟩ := h
  refine ⟨μ, ρ, st, R, E, (Post.bind (R := Dat) h).imp fun v H1 ⟨x, st1, μ1, _, e1, R1, d1, h1⟩ => ?_⟩
  cases q : dTru x st1 with
  | none => simp only [q] at h1; exact False.elim h1
  | some k => simp only [q] at h1; exact ⟨k, by rw [hK]; exact tru_of R1 d1 q, Post.now R1 h1 (.bl _)⟩
/-- a chain a op b op' c -/
def mChain (f g : D → D → Store → O D) (a b c : M D) : M D := fun ρ st => (a ρ st).bind fun x st1 => (b ρ st1).bind fun y st2 => (f x y st2).bind fun z st3 => match z with
  | .bl true => (c ρ st3).bind fun w st4 => g y w st4
  | .bl false => .ok (.bl false) st3
  | _ => .no
theorem snd_run {r : R2} {f : D → D → Store → O D} (hf : Snd2 C r f) {σ : L2.St} {x y : V} {a b : D} {Q : VK} (R : C.Rel μ st H) (da : Dat C.K st.length μ H x a) (db : Dat C.K st.length μ H y b) (h : Post C Dat W σ Q st.length μ H (f a b st)) : r x y H Q :=
  hf μ st H x y a b W σ Q R da db h
theorem td_chain {r r' : R2} {f g : D → D → Store → O D} {a b c : M D} (hf : Snd2 C r f) (hg : Snd2 C r' g) {σ : L2.St} {Q : VK} (h : TD C W (mChain f g a b c) σ H Q) : tChain r r' (TD C W a) (TD C W b) (TD C W c) σ H Q := by
  obtain ⟨μ, ρ, st, R, E, h⟩ := h
  refine ⟨μ, ρ, st, R, E, (Post.bind (R := Dat) h).imp fun v H1 ⟨x, st1, μ1, _, e1, R1, d1, h1⟩ => ?_⟩
  refine ⟨μ1, ρ, st1, R1, E.ext e1, (Post.bind (R := Dat) h1).imp fun w H2 ⟨y, st2, μ2, _, e2, R2, d2, h2⟩ => ?_⟩
  refine snd_run hf R2 (d1.ext e2) d2 ((Post.bind (R := Dat) h2).imp fun z H3 ⟨u, st3, μ3, _, e3, R3, d3, h3⟩ => ?_)
  cases d3 with
  | bl k =>
    cases k with
    | true =>
      refine ⟨true, rfl, iteT ?_⟩
      refine ⟨μ3, ρ, st3, R3, (E.ext (e1.trans e2)).ext e3, (Post.bind (R := Dat) h3).imp fun w' H4 ⟨u', st4, μ4, _, e4, R4, d4, h4⟩ => ?_⟩
      exact snd_run hg R4 ((d2.ext e3).ext e4) d4 h4
    | false => exact ⟨false, rfl, iteF (Post.now R3 h3 (.bl _))⟩
  | _ => exact False.elim h3
end

/-! ### built-in calls -/
def dLen : List D → Store → O D
  | [.str s], st => .ok (.int s.length) st
  | [d], st => match dctOf st d with
    | some kvs => .ok (.int kvs.length) st
    | none => match seqOf st d with
      | some xs => .ok (.int xs.length) st
      | none => .no
  | _, _ => .no
def dList (m : Bool) : List D → Store → O D
  | [d], st => match seqOf st d with
    | some xs => mkL m xs st
    | none => .no
  | _, _ => .no
def dTuple : List D → Store → O D
  | [.tup xs], st => .ok (.tup xs) st
  | [d], st => match seqOf st d with
    | some xs => mkT xs st
    | none => .no
  | _, _ => .no
def dInt : List D → Store → O D
  | [.int i], st => .ok (.int i) st
  | [.bl b], st => .ok (.int (if b then 1 else 0)) st
  | [.str s], st => match PySem.intText? s with
    | some n => if s.length ≤ 640 then .ok (.int n) st else .no
    | none => .no
  | _, _ => .no
def dStr : List D → Store → O D
  | [.int i], st => if 0 ≤ i ∧ i < 1000000000 then .ok (.str (Str.ofString (toString i))) st else .no
  | _, _ => .no
def intsD : List D → Option (List Int)
  | [] => some []
  | .int i :: r => (intsD r).map (i :: ·)
  | _ :: _ => none
def boolsD : List D → Option (List Bool)
  | [] => some []
  | .bl b :: r => (boolsD r).map (b :: ·)
  | _ :: _ => none
def strsD : List D → Option (List Str)
  | [] => some []
  | .str b :: r => (strsD r).map (b :: ·)
  | _ :: _ => none
def listOf (st : Store) : D → Option (List D)
  | .frz xs => some xs
  | d => lstOf st d
def dSum : List D → Store → O D
  | [d], st => match listOf st d with
    | some xs => match intsD xs with
      | some ns => .ok (.int ns.sum) st
      | none => .no
    | none => .no
  | _, _ => .no
def dAllAny (all : Bool) : List D → Store → O D
  | [d], st => match listOf st d with
    | some xs => match boolsD xs with
      | some bs => .ok (.bl (if all then bs.all id else bs.any id)) st
      | none => .no
    | none => .no
  | _, _ => .no
section
variable {C : Cf} {X : Cx} {μ : Mu} {st : Store} {H : Hp} {W : WX}
theorem listOf_ok (R : C.Rel μ st H) {v : V} {d : D} {xs : List D} (h : Dat C.K st.length μ H v d) (e : listOf st d = some xs) : ∃ a vs, v = .ref a ∧ SqL C.K H a vs ∧ DatL C.K st.length μ H vs xs ∧ xs.length ≤ sizeLine := by
  cases h with
  | frz h hl hs => cases e; exact ⟨_, _, rfl, h.sq, hs, hl⟩
  | lst h nl hl hs => cases e; exact ⟨_, _, rfl, .of h, hs, hl⟩
  | @ref i hi =>
    obtain ⟨a, vs, h1, h2, h3, h4⟩ := lstOf_ok R (.ref hi) (show lstOf st (.ref i) = some xs from e)
    exact ⟨a, vs, h1, .of h2, h3, h4⟩
  | _ => cases e
theorem ints_of {K : PySem.W.Frag} {n : Nat} : ∀ {xs : List D} {vs : List V} {ns : List Int}, DatL K n μ H vs xs → intsD xs = some ns → vs = ns.map V.int
  | [], _, _, h, e => by cases h; cases e; rfl
  | d :: r, _, ns, h, e => by
    cases h with
    | cons h1 h2 =>
      cases h1 with
      | int i =>
        obtain ⟨ms, q, rfl⟩ := map_some (show (intsD r).map (i :: ·) = some ns from e)
        rw [ints_of h2 q]; rfl
      | _ => cases e
theorem bools_of {K : PySem.W.Frag} {n : Nat} : ∀ {xs : List D} {vs : List V} {ns : List Bool}, DatL K n μ H vs xs → boolsD xs = some ns → vs = ns.map V.bl
  | [], _, _, h, e => by cases h; cases e; rfl
  | d :: r, _, ns, h, e => by
    cases h with
    | cons h1 h2 =>
      cases h1 with
      | bl i =>
        obtain ⟨ms, q, rfl⟩ := map_some (show (boolsD r).map (i :: ·) = some ns from e)
        rw [bools_of h2 q]; rfl
      | _ => cases e
theorem strs_of {K : PySem.W.Frag} {n : Nat} : ∀ {xs : List D} {vs : List V} {ns : List Str}, DatL K n μ H vs xs → strsD xs = some ns → vs = ns.map V.str ∧ ∀ s ∈ ns, s.length ≤ sizeLine ∧ PyData.strOk s = true
  | [], _, _, h, e => by cases h; cases e; exact ⟨rfl, by simp⟩
  | d :: r, _, ns, h, e => by
    cases h with
    | cons h1 h2 =>
      cases h1 with
      | @str i hl ok =>
        obtain ⟨ms, q, rfl⟩ := map_some (show (strsD r).map (i :: ·) = some ns from e)
        obtain ⟨a, b⟩ := strs_of h2 q
        refine ⟨by rw [a]; rfl, fun s hs => ?_⟩
        rcases List.mem_cons.mp hs with rfl | hs
        · exact ⟨hl, ok⟩
        · exact b s hs
      | _ => cases e
theorem DatL.of_strs {K : PySem.W.Frag} {n : Nat} : ∀ {ss : List Str}, (∀ s ∈ ss, s.length ≤ sizeLine ∧ PyData.strOk s = true) → DatL K n μ H (ss.map V.str) (ss.map D.str)
  | [], _ => .nil
  | s :: r, h => .cons (.str (h s (List.mem_cons_self ..)).1 (h s (List.mem_cons_self ..)).2) (DatL.of_strs fun x hx => h x (List.mem_cons_of_mem _ hx))
theorem snd_len (hK : X.K = C.K) : SndL C (fun xs H Q => ∃ r, CallR X (.builtin "len") r ∧ r xs H Q) dLen := by
  intro μ st H xs ds W σ Q R hd h
  cases hd with
  | nil => exact False.elim h
  | @cons v vs d ds h1 h2 =>
    cases h2 with
    | cons _ _ => cases d <;> exact False.elim h
    | nil =>
      have rest : Post C Dat W σ Q st.length μ H (match dctOf st d with
        | some kvs => .ok (.int kvs.length) st
        | none => match seqOf st d with
          | some xs => .ok (.int xs.length) st
          | none => .no) → ∃ r, CallR X (.builtin "len") r ∧ r [v] H Q := fun h => by
        cases q : dctOf st d with
        | some kvs =>
          rw [q] at h
          obtain ⟨a, vs, rfl, ha, hv, _⟩ := dctOf_ok R h1 q
          refine ⟨_, call_lenD, a, vs, rfl, ha, ?_⟩
          rw [hv.length]; exact Post.now R h (.int _)
        | none =>
          rw [q] at h
          cases q2 : seqOf st d with
          | none => simp only [q2] at h; exact False.elim h
          | some xs =>
            simp only [q2] at h
            obtain ⟨a, vs, rfl, ha, hv, _⟩ := seqOf_ok R h1 q2
            refine ⟨_, call_len_seq, a, vs, rfl, by rw [hK]; exact ha, ?_⟩
            rw [hv.length]; exact Post.now R h (.int _)
      cases h1 with
      | str hl ok => exact ⟨_, call_len_str, _, rfl, hl, Post.now R h (.int _)⟩
      | _ => exact rest h
theorem snd_list (hK : X.K = C.K) (m : Bool) : SndL C (fun xs H Q => ∃ r, CallR X (.type "list") r ∧ r xs H Q) (dList m) := by
  intro μ st H xs ds W σ Q R hd h
  cases hd with
  | nil => exact False.elim h
  | @cons v vs d ds h1 h2 =>
    cases h2 with
    | cons _ _ => exact False.elim h
    | nil =>
      have h' : Post C Dat W σ Q st.length μ H (match seqOf st d with
        | some xs => mkL m xs st
        | none => .no) := h
      cases q2 : seqOf st d with
      | none => simp only [q2] at h'; exact False.elim h'
      | some xs =>
        simp only [q2] at h'
        obtain ⟨a, vs, rfl, ha, hv, _⟩ := seqOf_ok R h1 q2
        exact ⟨_, call_list_of, a, vs, rfl, by rw [hK]; exact ha, fun z hz => newL R h' hv hz⟩
theorem snd_tuple (hK : X.K = C.K) : SndL C (fun xs H Q => ∃ r, CallR X (.type "tuple") r ∧ r xs H Q) dTuple := by
  intro μ st H xs ds W σ Q R hd h
  cases hd with
  | nil => exact False.elim h
  | @cons v vs d ds h1 h2 =>
    cases h2 with
    | cons _ _ => cases d <;> exact False.elim h
    | nil =>
      have rest : (∀ xs, d ≠ .tup xs) → Post C Dat W σ Q st.length μ H (match seqOf st d with
        | some xs => mkT xs st
        | none => .no) → ∃ r, CallR X (.type "tuple") r ∧ r [v] H Q := fun hn h => by
        cases q2 : seqOf st d with
        | none => simp only [q2] at h; exact False.elim h
        | some xs =>
          simp only [q2] at h
          have el : listOf st d = some xs := by
            cases d <;> first | exact q2 | exact absurd rfl (hn _) | cases q2
          obtain ⟨a, vs, rfl, ha, hv, _⟩ := listOf_ok R h1 el
          exact ⟨_, call_tuple_of, a, vs, rfl, .inl ⟨by rw [hK]; exact ha, fun z hz => newT R h hv hz⟩⟩
      cases h1 with
      | tup hT hl hs => exact ⟨_, call_tupleT, _, _, rfl, by rw [hK]; exact hT, Post.now R h (.tup hT hl hs)⟩
      | _ => exact rest (fun _ z => by cases z) h
theorem snd_int : SndL C (fun xs H Q => ∃ r, CallR X (.type "int") r ∧ r xs H Q) dInt := by
  intro μ st H xs ds W σ Q R hd h
  cases hd with
  | nil => exact False.elim h
  | @cons v vs d ds h1 h2 =>
    cases h2 with
    | cons _ _ => cases d <;> exact False.elim h
    | nil =>
      cases h1 with
      | int i => exact ⟨_, call_int1, .inl ⟨i, rfl, Post.now R h (.int _)⟩⟩
      | bl b => exact ⟨_, call_int1, .inr ⟨b, rfl, Post.now R h (.int _)⟩⟩
      | @str s hl ok =>
        have h' : Post C Dat W σ Q st.length μ H (match PySem.intText? s with
          | some n => if s.length ≤ 640 then .ok (.int n) st else .no
          | none => .no) := h
        cases q : PySem.intText? s with
        | none => rw [q] at h'; exact False.elim h'
        | some n =>
          rw [q] at h'
          dsimp only at h'
          split at h'
          · exact ⟨_, call_int_str, s, n, rfl, q, by assumption, Post.now R h' (.int _)⟩
          · exact False.elim h'
      | _ => exact False.elim h
theorem snd_sum (hK : X.K = C.K) (hc : X.calm = true) : SndL C (fun xs H Q => ∃ r, CallR X (.builtin "sum") r ∧ r xs H Q) dSum := by
  intro μ st H xs ds W σ Q R hd h
  cases hd with
  | nil => exact False.elim h
  | @cons v vs d ds h1 h2 =>
    cases h2 with
    | cons _ _ => exact False.elim h
    | nil =>
      have h' : Post C Dat W σ Q st.length μ H (match listOf st d with
        | some xs => match intsD xs with
          | some ns => .ok (.int ns.sum) st
          | none => .no
        | none => .no) := h
      cases q2 : listOf st d with
      | none => simp only [q2] at h'; exact False.elim h'
      | some xs =>
        simp only [q2] at h'
        cases q3 : intsD xs with
        | none => simp only [q3] at h'; exact False.elim h'
        | some ns =>
          simp only [q3] at h'
          obtain ⟨a, vs, rfl, ha, hv, _⟩ := listOf_ok R h1 q2
          rw [ints_of hv q3] at ha
          exact ⟨_, cr_sum hc, a, ns, rfl, by rw [hK]; exact ha, Post.now R h' (.int _)⟩
theorem snd_all (hK : X.K = C.K) (hc : X.calm = true) : SndL C (fun xs H Q => ∃ r, CallR X (.builtin "all") r ∧ r xs H Q) (dAllAny true) := by
  intro μ st H xs ds W σ Q R hd h
  cases hd with
  | nil => exact False.elim h
  | @cons v vs d ds h1 h2 =>
    cases h2 with
    | cons _ _ => exact False.elim h
    | nil =>
      have h' : Post C Dat W σ Q st.length μ H (match listOf st d with
        | some xs => match boolsD xs with
          | some bs => .ok (.bl (bs.all id)) st
          | none => .no
        | none => .no) := h
      cases q2 : listOf st d with
      | none => simp only [q2] at h'; exact False.elim h'
      | some xs =>
        simp only [q2] at h'
        cases q3 : boolsD xs with
        | none => simp only [q3] at h'; exact False.elim h'
        | some ns =>
          simp only [q3] at h'
          obtain ⟨a, vs, rfl, ha, hv, _⟩ := listOf_ok R h1 q2
          rw [bools_of hv q3] at ha
          exact ⟨_, cr_all hc, a, ns, rfl, by rw [hK]; exact ha, Post.now R h' (.bl _)⟩
theorem snd_any (hK : X.K = C.K) (hc : X.calm = true) : SndL C (fun xs H Q => ∃ r, CallR X (.builtin "any") r ∧ r xs H Q) (dAllAny false) := by
  intro μ st H xs ds W σ Q R hd h
  cases hd with
  | nil => exact False.elim h
  | @cons v vs d ds h1 h2 =>
    cases h2 with
    | cons _ _ => exact False.elim h
    | nil =>
      have h' : Post C Dat W σ Q st.length μ H (match listOf st d with
        | some xs => match boolsD xs with
          | some bs => .ok (.bl (bs.any id)) st
          | none => .no
        | none => .no) := h
      cases q2 : listOf st d with
      | none => simp only [q2] at h'; exact False.elim h'
      | some xs =>
        simp only [q2] at h'
        cases q3 : boolsD xs with
        | none => simp only [q3] at h'; exact False.elim h'
        | some ns =>
          simp only [q3] at h'
          obtain ⟨a, vs, rfl, ha, hv, _⟩ := listOf_ok R h1 q2
          rw [bools_of hv q3] at ha
          exact ⟨_, cr_any hc, a, ns, rfl, by rw [hK]; exact ha, Post.now R h' (.bl _)⟩
end
end Mi
/-! Mi7: methods of built-in types, isinstance. -/
namespace Mi
open PySem L2

/-! ### texts -/
/-- cut at each c -/
def spC (c : Nat) : List Nat → List (List Nat)
  | [] => [[]]
  | x :: r => if x = c then [] :: spC c r else match spC c r with
    | h :: t => (x :: h) :: t
    | [] => [[x]]
theorem spC_ne (c : Nat) : ∀ l : List Nat, spC c l ≠ []
  | [] => by simp [spC]
  | x :: r => by
    unfold spC
    split
    · simp
    · split <;> simp
theorem spC_hit (c : Nat) (r : List Nat) : spC c (c :: r) = [] :: spC c r := by
  show (if c = c then [] :: spC c r else _) = _
  rw [if_pos rfl]
theorem spC_miss {c x : Nat} (r : List Nat) (h : ¬ x = c) : spC c (x :: r) = match spC c r with
    | h :: t => (x :: h) :: t
    | [] => [[x]] := by
  show (if x = c then [] :: spC c r else match spC c r with
    | h :: t => (x :: h) :: t
    | [] => [[x]]) = _
  rw [if_neg h]
theorem spl_spC (c : Nat) : ∀ (l acc : List Nat), TL.spl [c] 0 acc l = match spC c l with
    | h :: t => (acc ++ h) :: t
    | [] => [acc]
  | [], acc => by simp [TL.spl, spC]
  | x :: r, acc => by
    by_cases e : x = c
    · subst e
      rw [TL.spl_hit (by simp [TL.pre]), spC_hit]
      have ih := spl_spC x r []
      simp only [List.length_singleton, Nat.sub_self]
      rw [ih]
      cases q : spC x r with
      | nil => exact absurd q (spC_ne x r)
      | cons h t => simp
    · rw [TL.spl_miss (by simp [TL.pre, e]), spl_spC c r (acc ++ [x]), spC_miss r e]
      cases q : spC c r with
      | nil => exact absurd q (spC_ne c r)
      | cons h t => simp
theorem mem_spC {c : Nat} : ∀ {l p : List Nat}, p ∈ spC c l → p.length ≤ l.length ∧ ∀ x ∈ p, x ∈ l
  | [], p, h => by simp [spC] at h; subst h; simp
  | x :: r, p, h => by
    unfold spC at h
    split at h
    · rcases List.mem_cons.mp h with rfl | h
      · simp
      · obtain ⟨h1, h2⟩ := mem_spC h
        exact ⟨by rw [List.length_cons]; omega, fun y hy => List.mem_cons_of_mem _ (h2 y hy)⟩
    · cases q : spC c r with
      | nil => exact absurd q (spC_ne c r)
      | cons a t =>
        rw [q] at h
        have ih := @mem_spC c r
        rcases List.mem_cons.mp h with rfl | h
        · obtain ⟨h1, h2⟩ := ih (p := a) (by rw [q]; exact List.mem_cons_self ..)
          refine ⟨by rw [List.length_cons, List.length_cons]; omega, fun y hy => ?_⟩
          rcases List.mem_cons.mp hy with rfl | hy
          · exact List.mem_cons_self ..
          · exact List.mem_cons_of_mem _ (h2 y hy)
        · obtain ⟨h1, h2⟩ := ih (p := p) (by rw [q]; exact List.mem_cons_of_mem _ h)
          exact ⟨by rw [List.length_cons]; omega, fun y hy => List.mem_cons_of_mem _ (h2 y hy)⟩
def splitS (c : Nat) (s : Str) : List Str := (spC c s.cps.toList).map fun l => ⟨l.toArray⟩
theorem split_eq {c : Nat} (hc : c < 256) (s : Str) : Txt.split s ⟨#[c]⟩ = splitS c s := by
  refine TL.map_tl_inj ?_
  rw [TL.split_spl s ⟨#[c]⟩ (by simp [TL.tl]) (TL.kind_ok (by simp [hc]))]
  have : TL.tl (⟨#[c]⟩ : Str) = [c] := rfl
  rw [this, spl_spC]
  unfold splitS
  rw [List.map_map]
  have e2 : (TL.tl ∘ fun l : List Nat => (⟨l.toArray⟩ : Str)) = id := by funext l; rfl
  rw [e2, List.map_id]
  cases q : spC c s.cps.toList with
  | nil => exact absurd q (spC_ne _ _)
  | cons h t => simp
theorem splitS_ok {c : Nat} {s : Str} (hl : s.length ≤ sizeLine) (ok : PyData.strOk s = true) : ∀ p ∈ splitS c s, p.length ≤ sizeLine ∧ PyData.strOk p = true := fun p hp => by
  obtain ⟨l, hm, rfl⟩ := List.mem_map.mp hp
  obtain ⟨h1, h2⟩ := mem_spC hm
  refine ⟨?_, strOk_list fun x hx => strOk_mem ok (h2 x hx)⟩
  show l.toArray.size ≤ _
  rw [List.size_toArray]
  refine Nat.le_trans h1 ?_
  rw [Array.length_toList]; exact hl
theorem joinL_ok {S : List Nat} (hS : ∀ c ∈ S, c < 0x110000) : ∀ {ps : List (List Nat)}, (∀ p ∈ ps, ∀ c ∈ p, c < 0x110000) → ∀ c ∈ TL.joinL S ps, c < 0x110000
  | [], _, c, h => by simp [TL.joinL] at h
  | [p], hp, c, h => hp p (List.mem_cons_self ..) c h
  | p :: q :: r, hp, c, h => by
    rcases List.mem_append.mp (show c ∈ p ++ (S ++ TL.joinL S (q :: r)) from h) with h | h
    · exact hp p (List.mem_cons_self ..) c h
    · rcases List.mem_append.mp h with h | h
      · exact hS c h
      · exact joinL_ok hS (fun p' hp' => hp p' (List.mem_cons_of_mem _ hp')) c h
theorem join_ok {y : Str} {ps : List Str} (hy : PyData.strOk y = true) (hp : ∀ p ∈ ps, PyData.strOk p = true) : PyData.strOk (Txt.join y ps) = true := by
  have e : (Txt.join y ps).cps.toList = TL.joinL (TL.tl y) (ps.map TL.tl) := by
    rw [TL.join_eq]; exact TL.tl_join y ps
  unfold PyData.strOk
  rw [← Array.all_toList, List.all_eq_true, e]
  intro c hc
  have := joinL_ok (S := TL.tl y) (fun c hc => strOk_mem hy hc) (ps := ps.map TL.tl) (fun p hm c hc => by
    obtain ⟨z, hz, rfl⟩ := List.mem_map.mp hm
    exact strOk_mem (hp z hz) hc) c hc
  simpa using this
theorem join_len {y : Str} {ps : List Str} (h : (ps.map (·.length)).sum + ps.length * y.length ≤ 16777216) : (Txt.join y ps).length ≤ sizeLine := by
  rw [TL.join_eq]
  exact Nat.le_trans (StrLaws.join_length_le y ps) h

/-! ### methods by name -/
def tyD (T : String) (d : D) (st : Store) : Bool := match d with
  | .str _ => T == "str"
  | .int _ => T == "int"
  | d => (T == "list" && (listOf st d).isSome) || (T == "dict" && (dctOf st d).isSome)
def mMeth (T : String) (f : D → List D → Store → O D) (o : M D) (a : M (List D)) : M D := fun ρ st => (o ρ st).bind fun x st1 => if tyD T x st1 = true then (a ρ st1).bind fun xs st2 => f x xs st2 else .no
def SndM (C : Cf) (r : V → List V → Hp → VK → Prop) (f : D → List D → Store → O D) : Prop := ∀ (μ : Mu) (st : Store) (H : Hp) (x : V) (a : D) (xs : List V) (ds : List D) (W : WX) (σ : L2.St) (Q : VK), C.Rel μ st H → Dat C.K st.length μ H x a → DatL C.K st.length μ H xs ds → Post C Dat W σ Q st.length μ H (f a ds st) → r x xs H Q
section
variable {C : Cf} {X : Cx} {μ : Mu} {st : Store} {H : Hp} {W : WX}
theorem ty_of (R : C.Rel μ st H) {T : String} {v : V} {d : D} (h : Dat C.K st.length μ H v d) (e : tyD T d st = true) : tyV C.K T v H := by
  have rest : ((T == "list" && (listOf st d).isSome) || (T == "dict" && (dctOf st d).isSome)) = true → tyV C.K T v H := fun e => by
    rw [Bool.or_eq_true, Bool.and_eq_true, Bool.and_eq_true] at e
    rcases e with ⟨e1, e2⟩ | ⟨e1, e2⟩
    · obtain ⟨xs, q⟩ := Option.isSome_iff_exists.mp e2
      obtain ⟨a, vs, rfl, ha, _⟩ := listOf_ok R h q
      exact .inl ⟨by simpa using e1, vs, ha⟩
    · obtain ⟨xs, q⟩ := Option.isSome_iff_exists.mp e2
      obtain ⟨a, vs, rfl, ha, _⟩ := dctOf_ok R h q
      exact .inr (.inr (.inl ⟨by simpa using e1, .inl ⟨vs, ha⟩⟩))
  cases h with
  | str hl ok => show T = "str"; simpa [tyD] using e
  | int i => show T = "int"; simpa [tyD] using e
  | _ => exact rest e
theorem td_meth {T : String} {r : V → List V → Hp → VK → Prop} {f : D → List D → Store → O D} {o : M D} {a : M (List D)} (hK : X.K = C.K) (hf : SndM C r f) {σ : L2.St} {Q : VK} (h : TD C W (mMeth T f o a) σ H Q) : tBM X.K T r (TD C W o) (TDA C W a) σ H Q := by
  obtain ⟨μ, ρ, st, R, E, h⟩ := h
  refine ⟨μ, ρ, st, R, E, (Post.bind (R := Dat) h).imp fun v H1 ⟨x, st1, μ1, _, e1, R1, d1, h1⟩ => ?_⟩
  by_cases ht : tyD T x st1 = true
  · rw [if_pos ht] at h1
    refine ⟨by rw [hK]; exact ty_of R1 d1 ht, μ1, ρ, st1, R1, E.ext e1, (Post.bind (R := DatL) h1).imp fun y H2 ⟨b, st2, μ2, _, e2, R2, d2, h2⟩ => ?_⟩
    exact hf μ2 st2 H2 v x y b W σ Q R2 (d1.ext e2) d2 h2
  · rw [if_neg ht] at h1; exact False.elim h1
theorem td_meth0 {T : String} {r : V → List V → Hp → VK → Prop} {f : D → List D → Store → O D} {o : M D} (hK : X.K = C.K) (hf : SndM C r f) {σ : L2.St} {Q : VK} (h : TD C W (mMeth T f o mNil) σ H Q) : tBM0 X.K T r (TD C W o) σ H Q := by
  obtain ⟨μ, ρ, st, R, E, h⟩ := h
  refine ⟨μ, ρ, st, R, E, (Post.bind (R := Dat) h).imp fun v H1 ⟨x, st1, μ1, _, e1, R1, d1, h1⟩ => ?_⟩
  by_cases ht : tyD T x st1 = true
  · rw [if_pos ht] at h1
    exact ⟨by rw [hK]; exact ty_of R1 d1 ht, hf μ1 st1 H1 v x [] [] W σ Q R1 d1 .nil h1⟩
  · rw [if_neg ht] at h1; exact False.elim h1

def dSplit (m : Bool) (x : D) (xs : List D) (st : Store) : O D := match x, xs with
  | .str s, [.str y] => match y.cps.toList with
    | [c] => if c < 256 ∧ s.length + 2 ≤ sizeLine then mkL m ((splitS c s).map D.str) st else .no
    | _ => .no
  | _, _ => .no
theorem snd_split (m : Bool) : SndM C (fun x xs H Q => ∃ r, MtR X "str.split" r ∧ r x xs H Q) (dSplit m) := by
  intro μ st H x a xs ds W σ Q R da dl h
  cases da with
  | @str s hl ok =>
    cases dl with
    | nil => exact False.elim h
    | cons h1 h2 =>
      cases h2 with
      | cons _ _ => rename_i d _ _ _ _ _ _; cases d <;> exact False.elim h
      | nil =>
        cases h1 with
        | @str y hl' ok' =>
          have h' : Post C Dat W σ Q st.length μ H (match y.cps.toList with
            | [c] => if c < 256 ∧ s.length + 2 ≤ sizeLine then mkL m ((splitS c s).map D.str) st else .no
            | _ => .no) := h
          split at h'
          · rename_i c e
            have ex := str_one e
            subst ex
            split at h'
            · rename_i hc
              refine ⟨_, mt_split, s, _, rfl, rfl, rfl, hc.2, fun p hp => ?_⟩
              rw [split_eq hc.1]
              exact newL R h' (DatL.of_strs (splitS_ok hl ok)) hp
            · exact False.elim h'
          · exact False.elim h'
        | _ => exact False.elim h
  | _ => exact False.elim h
def dJoin (x : D) (xs : List D) (st : Store) : O D := match x, xs with
  | .str y, [d] => match seqOf st d with
    | some l => match strsD l with
      | some ps => if (ps.map (·.length)).sum + ps.length * y.length ≤ 16777216 then .ok (.str (Txt.join y ps)) st else .no
      | none => .no
    | none => .no
  | _, _ => .no
theorem snd_join (hK : X.K = C.K) : SndM C (fun x xs H Q => ∃ r, MtR X "str.join" r ∧ r x xs H Q) dJoin := by
  intro μ st H x a xs ds W σ Q R da dl h
  cases da with
  | @str y hl ok =>
    cases dl with
    | nil => exact False.elim h
    | @cons v vs d ds h1 h2 =>
      cases h2 with
      | cons _ _ => exact False.elim h
      | nil =>
        have h' : Post C Dat W σ Q st.length μ H (match seqOf st d with
          | some l => match strsD l with
            | some ps => if (ps.map (·.length)).sum + ps.length * y.length ≤ 16777216 then .ok (.str (Txt.join y ps)) st else .no
            | none => .no
          | none => .no) := h
        cases q : seqOf st d with
        | none => simp only [q] at h'; exact False.elim h'
        | some l =>
          simp only [q] at h'
          cases q2 : strsD l with
          | none => simp only [q2] at h'; exact False.elim h'
          | some ps =>
            simp only [q2] at h'
            split at h'
            · rename_i hc
              obtain ⟨p, vs, rfl, hp, hv, _⟩ := seqOf_ok R h1 q
              obtain ⟨e1, e2⟩ := strs_of hv q2
              rw [e1] at hp
              exact ⟨_, mt_join, y, p, ps, rfl, rfl, by rw [hK]; exact hp, hc, Post.now R h' (.str (join_len hc) (join_ok ok fun s hs => (e2 s hs).2))⟩
            · exact False.elim h'
  | _ => exact False.elim h
/-! ### lists that change -/
def dAppend (x : D) (xs : List D) (st : Store) : O D := match x, xs with
  | .ref i, [d] => match st[i]? with
    | some (.lst l) => if l.length < sizeLine then .ok .non (st.set i (.lst (l ++ [d]))) else .no
    | _ => .no
  | _, _ => .no
theorem setL_post {i : Nat} {l' : List D} {vs' : List V} {σ : L2.St} {Q : VK} {d : D} {v : V} (R : C.Rel μ st H) (hi : i < st.length) (hv : DatL C.K st.length μ H vs' l') (hl : l'.length ≤ sizeLine) (hd : Dat C.K st.length μ H v d)
    (h : Post C Dat W σ Q st.length μ H (.ok d (st.set i (.lst l')))) : Q v (upd H (μ i) (.lst vs')) := by
  have E := R.ext_set (o := .lst vs') hi
  have el : (st.set i (.lst l')).length = st.length := List.length_set
  refine h v μ _ (by rw [el]; exact E) (R.set hi (fun _ z => by cases z) (fun _ _ z => by cases z) ⟨vs', upd_same, hv.ext E, hl⟩) ?_
  rw [el]
  exact hd.ext E
theorem live_lst (R : C.Rel μ st H) {i : Nat} {l : List D} (q : st[i]? = some (.lst l)) : i < st.length ∧ ∃ vs, H (μ i) = some (.lst vs) ∧ DatL C.K st.length μ H vs l ∧ l.length ≤ sizeLine := by
  obtain ⟨vs, h1, h2, h3⟩ := R.obj i _ q
  exact ⟨(List.getElem?_eq_some_iff.mp q).1, vs, h1, h2, h3⟩
theorem snd_append : SndM C (fun x xs H Q => ∃ r, MtR X "list.append" r ∧ r x xs H Q) dAppend := by
  intro μ st H x a xs ds W σ Q R da dl h
  cases da with
  | @ref i hi =>
    cases dl with
    | nil => exact False.elim h
    | @cons v vs d ds h1 h2 =>
      cases h2 with
      | cons _ _ => exact False.elim h
      | nil =>
        have h' : Post C Dat W σ Q st.length μ H (match st[i]? with
          | some (.lst l) => if l.length < sizeLine then .ok .non (st.set i (.lst (l ++ [d]))) else .no
          | _ => .no) := h
        cases q : st[i]? with
        | none => simp only [q] at h'; exact False.elim h'
        | some o =>
          cases o with
          | lst l =>
            simp only [q] at h'
            split at h'
            · rename_i hc
              obtain ⟨_, ws, hw, hwl, _⟩ := live_lst R q
              refine ⟨_, mt_append, μ i, ws, v, rfl, rfl, hw, by rw [hwl.length]; exact hc, ?_⟩
              exact setL_post R hi (hwl.append (.cons h1 .nil)) (by rw [List.length_append]; exact hc) .non h'
            · exact False.elim h'
          | dct _ => simp only [q] at h'; exact False.elim h'
          | ins _ _ => simp only [q] at h'; exact False.elim h'
  | _ => exact False.elim h
def dExtend (x : D) (xs : List D) (st : Store) : O D := match x, xs with
  | .ref i, [d] => match st[i]?, lstOf st d with
    | some (.lst l), some zs => if l.length + zs.length ≤ sizeLine then .ok .non (st.set i (.lst (l ++ zs))) else .no
    | _, _ => .no
  | _, _ => .no
theorem snd_extend : SndM C (fun x xs H Q => ∃ r, MtR X "list.extend" r ∧ r x xs H Q) dExtend := by
  intro μ st H x a xs ds W σ Q R da dl h
  cases da with
  | @ref i hi =>
    cases dl with
    | nil => exact False.elim h
    | @cons v vs d ds h1 h2 =>
      cases h2 with
      | cons _ _ => exact False.elim h
      | nil =>
        have h' : Post C Dat W σ Q st.length μ H (match st[i]?, lstOf st d with
          | some (.lst l), some zs => if l.length + zs.length ≤ sizeLine then .ok .non (st.set i (.lst (l ++ zs))) else .no
          | _, _ => .no) := h
        cases q : st[i]? with
        | none => simp only [q] at h'; exact False.elim h'
        | some o =>
          cases o with
          | lst l =>
            cases q2 : lstOf st d with
            | none => simp only [q, q2] at h'; exact False.elim h'
            | some zs =>
              simp only [q, q2] at h'
              split at h'
              · rename_i hc
                obtain ⟨_, ws, hw, hwl, _⟩ := live_lst R q
                obtain ⟨b, us, rfl, hb, hbl, _⟩ := lstOf_ok R h1 q2
                refine ⟨_, mt_extend, μ i, b, ws, us, rfl, rfl, hw, hb, by rw [hwl.length, hbl.length]; exact hc, ?_⟩
                exact setL_post R hi (hwl.append hbl) (by rw [List.length_append]; exact hc) .non h'
              · exact False.elim h'
          | dct _ => simp only [q] at h'; exact False.elim h'
          | ins _ _ => simp only [q] at h'; exact False.elim h'
  | _ => exact False.elim h
def dClear (x : D) (xs : List D) (st : Store) : O D := match x, xs with
  | .ref i, [] => match st[i]? with
    | some (.lst l) => .ok .non (st.set i (.lst []))
    | _ => .no
  | _, _ => .no
theorem snd_clear : SndM C (fun x xs H Q => ∃ r, MtR X "list.clear" r ∧ r x xs H Q) dClear := by
  intro μ st H x a xs ds W σ Q R da dl h
  cases da with
  | @ref i hi =>
    cases dl with
    | cons _ _ => exact False.elim h
    | nil =>
      have h' : Post C Dat W σ Q st.length μ H (match st[i]? with
        | some (.lst l) => .ok .non (st.set i (.lst []))
        | _ => .no) := h
      cases q : st[i]? with
      | none => simp only [q] at h'; exact False.elim h'
      | some o =>
        cases o with
        | lst l =>
          simp only [q] at h'
          obtain ⟨_, ws, hw, hwl, _⟩ := live_lst R q
          exact ⟨_, mt_clear, μ i, ws, rfl, rfl, hw, setL_post R hi .nil (Nat.zero_le _) .non h'⟩
        | dct _ => simp only [q] at h'; exact False.elim h'
        | ins _ _ => simp only [q] at h'; exact False.elim h'
  | _ => exact False.elim h
end
end Mi
/-! Mi8: names, displays, what is walked, comprehensions. -/
namespace Mi
open PySem L2

def mVar (i : Nat) : M D := fun ρ st => match ρ[i]? with
  | some (some d) => .ok d st
  | _ => .no
def mC (d : D) : M D := fun _ st => .ok d st
def mTup (a : M (List D)) : M D := fun ρ st => (a ρ st).bind mkT
def mLst (m : Bool) (a : M (List D)) : M D := fun ρ st => (a ρ st).bind (mkL m)
def mkD (b : Bool) (ds : List (Key × D)) (st : Store) : O D := if ds.length ≤ sizeLine then (if b = true then .ok (.ref st.length) (st ++ [.dct ds]) else .ok (.dct ds) st) else .no
section
variable {C : Cf} {X : Cx} {μ : Mu} {st : Store} {H : Hp} {W : WX}
theorem td_var {i : Nat} {σ : L2.St} {Q : VK} (h : TD C W (mVar i) σ H Q) : tVar i σ H Q := by
  obtain ⟨μ, ρ, st, R, E, h⟩ := h
  unfold mVar at h
  split at h
  · rename_i d e
    obtain ⟨v, h1, h2⟩ := E.at_ i d e
    exact ⟨v, h1, Post.now R h h2⟩
  · exact False.elim h
theorem td_c {d : D} {v : V} (hd : ∀ n μ H, Dat C.K n μ H v d) {σ : L2.St} {Q : VK} (h : TD C W (mC d) σ H Q) : tC v σ H Q := by
  obtain ⟨μ, ρ, st, R, E, h⟩ := h
  exact Post.now R h (hd _ _ _)
theorem td_tup {a : M (List D)} {σ : L2.St} {Q : VK} (h : TD C W (mTup a) σ H Q) : tTup (TDA C W a) σ H Q := by
  obtain ⟨μ, ρ, st, R, E, h⟩ := h
  refine ⟨μ, ρ, st, R, E, (Post.bind (R := DatL) h).imp fun vs H1 ⟨x, st1, μ1, _, e1, R1, d1, h1⟩ => ?_⟩
  exact ⟨by rw [d1.length]; exact mkT_len h1, fun p hp => newT R1 h1 d1 hp⟩
theorem td_lst {m : Bool} {a : M (List D)} {σ : L2.St} {Q : VK} (h : TD C W (mLst m a) σ H Q) : tLst (TDA C W a) σ H Q := by
  obtain ⟨μ, ρ, st, R, E, h⟩ := h
  refine ⟨μ, ρ, st, R, E, (Post.bind (R := DatL) h).imp fun vs H1 ⟨x, st1, μ1, _, e1, R1, d1, h1⟩ => ?_⟩
  exact ⟨by rw [d1.length]; exact mkL_len h1, fun p hp => newL R1 h1 d1 hp⟩
theorem newD {b : Bool} {ds : List (Key × D)} {vs : List (Key × V)} {σ : L2.St} {Q : VK} (R : C.Rel μ st H) (h : Post C Dat W σ Q st.length μ H (mkD b ds st)) (hs : DatK C.K st.length μ H vs ds) {p : Addr} (hp : H p = none) : Q (.ref p) (upd H p (.dK vs)) := by
  have hl : ds.length ≤ sizeLine := by
    unfold mkD at h
    split at h
    · assumption
    · exact False.elim h
  unfold mkD at h
  rw [if_pos hl] at h
  cases b with
  | true =>
    have h' : Post C Dat W σ Q st.length μ H (.ok (.ref st.length) (st ++ [.dct ds])) := h
    have el : (st ++ [Ob.dct ds]).length = st.length + 1 := by simp
    have E := R.ext_new (o := .dK vs) hp
    refine h' (.ref p) (mset μ st.length p) _ (by rw [el]; exact E) (R.alloc hp (fun _ z => by cases z) (fun _ _ z => by cases z) ⟨vs, upd_same, hs.ext E, hl⟩) ?_
    rw [el]
    have z : Dat C.K (st.length + 1) (mset μ st.length p) (upd H p (.dK vs)) (.ref (mset μ st.length p st.length)) (.ref st.length) := .ref (Nat.lt_succ_self _)
    rw [mset_at] at z
    exact z
  | false =>
    have h' : Post C Dat W σ Q st.length μ H (.ok (.dct ds) st) := h
    obtain ⟨E, nl⟩ := R.fresh (o := .dK vs) hp
    exact h' (.ref p) μ _ E (R.upd hp) (.dct upd_same nl hl (hs.ext E))
theorem td_dnew {m : Bool} {σ : L2.St} {Q : VK} (h : TD C W (fun _ st => mkD m [] st) σ H Q) : tDNewK σ H Q := by
  obtain ⟨μ, ρ, st, R, E, h⟩ := h
  exact fun p hp => newD R h .nil hp
end

/-! ### what is walked -/
structure Wk (C : Cf) (J : It) (ds : List D) (n : Nat) (μ : Mu) (H : Hp) : Prop where
  stop : ∀ (n1 : Nat) (μ1 : Mu) (H1 : Hp), Ext n μ H n1 μ1 H1 → J.stop ds.length H1
  go : ∀ (n1 : Nat) (μ1 : Mu) (H1 : Hp), Ext n μ H n1 μ1 H1 → ∀ (i : Nat), i < ds.length → J.go i H1
  yld : ∀ (st1 : Store) (μ1 : Mu) (H1 : Hp), Ext n μ H st1.length μ1 H1 → C.Rel μ1 st1 H1 → ∀ (i : Nat) (d : D) (x : V) (H2 : Hp), ds[i]? = some d → J.yld i H1 x H2 →
    Ext st1.length μ1 H1 st1.length μ1 H2 ∧ C.Rel μ1 st1 H2 ∧ Dat C.K st1.length μ1 H2 x d
abbrev RI (C : Cf) : RelT (List D) It := fun _ n μ H J ds => Wk C J ds n μ H ∧ ds.length ≤ sizeLine
abbrev TDI (C : Cf) (W : WX) (m : M (List D)) : TI := TDg C (RI C) W m
section
variable {C : Cf} {X : Cx} {μ : Mu} {n : Nat} {st : Store} {H : Hp} {W : WX}
theorem wk_list {a : Addr} {vs : List V} {ds : List D} (hs : DatL C.K n μ H vs ds) (hk : ∀ n1 μ1 H1, Ext n μ H n1 μ1 H1 → SqL C.K H1 a vs) : Wk C (Itl C.K a) ds n μ H where
  stop := fun n1 μ1 H1 e => ⟨vs, hk n1 μ1 H1 e, by rw [hs.length]; exact Nat.le_refl _⟩
  go := fun n1 μ1 H1 e i hi => ⟨vs, vs[i]'(by rw [hs.length]; exact hi), hk n1 μ1 H1 e, List.getElem?_eq_getElem _⟩
  yld := fun st1 μ1 H1 e R i d x H2 hd hy => by
    obtain ⟨rfl, hy⟩ := hy
    have hx := hy vs (hk _ _ _ e)
    obtain ⟨d', h1, h2⟩ := hs.get' hx
    rw [hd] at h1
    cases h1
    exact ⟨Ext.refl, R, h2.ext e⟩
theorem wk_tup {a : Addr} {vs : List V} {ds : List D} (hs : DatL C.K n μ H vs ds) (hT : SqT C.K H a vs) : Wk C (Itt C.K a) ds n μ H where
  stop := fun n1 μ1 H1 e => ⟨vs, e.sqT hT, by rw [hs.length]; exact Nat.le_refl _⟩
  go := fun n1 μ1 H1 e i hi => ⟨vs, vs[i]'(by rw [hs.length]; exact hi), e.sqT hT, List.getElem?_eq_getElem _⟩
  yld := fun st1 μ1 H1 e R i d x H2 hd hy => by
    obtain ⟨rfl, hy⟩ := hy
    have hx := hy vs (e.sqT hT)
    obtain ⟨d', h1, h2⟩ := hs.get' hx
    rw [hd] at h1
    cases h1
    exact ⟨Ext.refl, R, h2.ext e⟩
theorem wk_str {s : Str} (ok : PyData.strOk s = true) : Wk C (Its s) (s.cps.toList.map fun c => D.str ⟨#[c]⟩) n μ H where
  stop := fun n1 μ1 H1 e => by show s.cps.size ≤ _; simp
  go := fun n1 μ1 H1 e i hi => by
    show i < s.cps.size
    simpa using hi
  yld := fun st1 μ1 H1 e R i d x H2 hd hy => by
    obtain ⟨rfl, c, hc, rfl⟩ := hy
    rw [List.getElem?_map] at hd
    have hc' : s.cps.toList[i]? = some c := by simpa using hc
    rw [hc'] at hd
    cases hd
    exact ⟨Ext.refl, R, .str (by show 1 ≤ _; decide) (strOk_list (l := [c]) (by simpa using strOk_mem ok (List.mem_of_getElem? hc')))⟩
def rangeD (lo : Int) (k : Nat) : List D := (List.range k).map fun (i : Nat) => D.int (lo + (i : Int))
theorem rangeD_len (lo : Int) (k : Nat) : (rangeD lo k).length = k := by simp [rangeD]
theorem wk_range {lo : Int} {k : Nat} : Wk C (Itr lo k) (rangeD lo k) n μ H where
  stop := fun n1 μ1 H1 e => by show k ≤ _; rw [rangeD_len]; exact Nat.le_refl _
  go := fun n1 μ1 H1 e i hi => by show i < k; rw [rangeD_len] at hi; exact hi
  yld := fun st1 μ1 H1 e R i d x H2 hd hy => by
    obtain ⟨rfl, rfl⟩ := hy
    have hi : i < k := by
      have := (List.getElem?_eq_some_iff.mp hd).1
      rw [rangeD_len] at this; exact this
    unfold rangeD at hd
    rw [List.getElem?_map, List.getElem?_range hi] at hd
    cases hd
    exact ⟨Ext.refl, R, .int _⟩
/-- a new tuple at each turn -/
theorem new_pair {st1 : Store} {μ1 : Mu} {H1 : Hp} (R : C.Rel μ1 st1 H1) {T : Addr} (hT : H1 T = none) {x y : V} {a b : D} (hx : Dat C.K st1.length μ1 H1 x a) (hy : Dat C.K st1.length μ1 H1 y b) :
    Ext st1.length μ1 H1 st1.length μ1 (upd H1 T (.tup [x, y])) ∧ C.Rel μ1 st1 (upd H1 T (.tup [x, y])) ∧ Dat C.K st1.length μ1 (upd H1 T (.tup [x, y])) (.ref T) (.tup [a, b]) := by
  obtain ⟨E, nl⟩ := R.fresh (o := .tup [x, y]) hT
  exact ⟨E, R.upd hT, .tup (.of upd_same) (by show 2 ≤ _; decide) (.cons (hx.ext E) (.cons (hy.ext E) .nil))⟩
def enumD (ds : List D) : List D := (List.range ds.length).zipWith (fun (i : Nat) d => D.tup [.int (i : Int), d]) ds
theorem enumD_len (ds : List D) : (enumD ds).length = ds.length := by simp [enumD]
theorem enumD_get {ds : List D} {i : Nat} {d : D} (h : (enumD ds)[i]? = some d) : ∃ x, ds[i]? = some x ∧ d = .tup [.int (i : Int), x] := by
  have hi := (List.getElem?_eq_some_iff.mp h).1
  rw [enumD_len] at hi
  unfold enumD at h
  rw [List.getElem?_zipWith, List.getElem?_range hi, List.getElem?_eq_getElem hi] at h
  exact ⟨_, List.getElem?_eq_getElem hi, (Option.some.inj h).symm⟩
theorem wk_enum {a : Addr} {vs : List V} {ds : List D} (hs : DatL C.K n μ H vs ds) (hk : ∀ n1 μ1 H1, Ext n μ H n1 μ1 H1 → SqL C.K H1 a vs) : Wk C (Ite C.K a) (enumD ds) n μ H where
  stop := fun n1 μ1 H1 e => ⟨vs, hk n1 μ1 H1 e, by rw [hs.length, enumD_len]; exact Nat.le_refl _⟩
  go := fun n1 μ1 H1 e i hi => ⟨vs, vs[i]'(by rw [hs.length, ← enumD_len]; exact hi), hk n1 μ1 H1 e, List.getElem?_eq_getElem _⟩
  yld := fun st1 μ1 H1 e R i d x H2 hd hy => by
    obtain ⟨T, y, rfl, hT, rfl, hy⟩ := hy
    have hx := hy vs (hk _ _ _ e)
    obtain ⟨d', h1, h2⟩ := hs.get' hx
    obtain ⟨z, hz, rfl⟩ := enumD_get hd
    rw [hz] at h1
    cases h1
    exact new_pair R hT (.int _) (h2.ext e)
def zipD (ds es : List D) : List D := ds.zipWith (fun a b => D.tup [a, b]) es
theorem wk_zip {a b : Addr} {vs us : List V} {ds es : List D} (hs : DatL C.K n μ H vs ds) (ht : DatL C.K n μ H us es) (hk : ∀ n1 μ1 H1, Ext n μ H n1 μ1 H1 → SqL C.K H1 a vs) (hk' : ∀ n1 μ1 H1, Ext n μ H n1 μ1 H1 → SqL C.K H1 b us) : Wk C (Itz C.K a b) (zipD ds es) n μ H where
  stop := fun n1 μ1 H1 e => ⟨vs, us, hk n1 μ1 H1 e, hk' n1 μ1 H1 e, by
    have : (zipD ds es).length = min ds.length es.length := by simp [zipD]
    rw [this, hs.length, ht.length]; omega⟩
  go := fun n1 μ1 H1 e i hi => by
    have : (zipD ds es).length = min ds.length es.length := by simp [zipD]
    rw [this] at hi
    exact ⟨vs, us, vs[i]'(by rw [hs.length]; omega), us[i]'(by rw [ht.length]; omega), hk n1 μ1 H1 e, hk' n1 μ1 H1 e, List.getElem?_eq_getElem _, List.getElem?_eq_getElem _⟩
  yld := fun st1 μ1 H1 e R i d x H2 hd hy => by
    obtain ⟨T, y, z, rfl, hT, rfl, hy, hz⟩ := hy
    obtain ⟨d1, h1, h2⟩ := hs.get' (hy vs (hk _ _ _ e))
    obtain ⟨d2, h3, h4⟩ := ht.get' (hz us (hk' _ _ _ e))
    unfold zipD at hd
    rw [List.getElem?_zipWith, h1, h3] at hd
    cases hd
    exact new_pair R hT (h2.ext e) (h4.ext e)
/-- a list that stays, read -/
theorem list_stays {v : V} {d : D} {xs : List D} (h : Dat C.K n μ H v d) (e : listOf [] d = some xs) : ∃ a vs, v = .ref a ∧ DatL C.K n μ H vs xs ∧ xs.length ≤ sizeLine ∧ ∀ n1 μ1 H1, Ext n μ H n1 μ1 H1 → SqL C.K H1 a vs := by
  cases h with
  | frz h hl hs =>
    cases e
    refine ⟨_, _, rfl, hs, hl, fun n1 μ1 H1 e => ?_⟩
    rcases h with ⟨⟨o, h⟩, nl⟩ | h
    · exact .inl (.inr ⟨_, e.keep _ _ h nl⟩)
    · exact .inr h
  | lst h nl hl hs => cases e; exact ⟨_, _, rfl, hs, hl, fun n1 μ1 H1 e => .of (e.keep _ _ h nl)⟩
  | ref hi => simp [listOf, lstOf] at e
  | _ => cases e

/-- the items of a thing that stays -/
def itemsD : D → Option (List D)
  | .lst xs => some xs
  | .frz xs => some xs
  | .tup xs => some xs
  | .str s => some (s.cps.toList.map fun c => D.str ⟨#[c]⟩)
  | _ => none
def mItems (a : M D) : M (List D) := fun ρ st => (a ρ st).bind fun d st1 => match itemsD d with
  | some xs => .ok xs st1
  | none => .no
theorem pi_itemsD (hK : X.K = C.K) {tg e : Expr} {m : M D} (he : PE X e (TD C W m)) : PI X tg e (TDI C W (mItems m)) := by
  refine PI.choose fun σ H Q h => ?_
  have h0 := h
  obtain ⟨μ, ρ, st, R, E, h⟩ := h
  unfold mItems at h
  cases q : m ρ st with
  | no => rw [q] at h; exact False.elim h
  | ex x st1 =>
    refine ⟨_, pi_list he, μ, ρ, st, R, E, ?_⟩
    rw [q] at h ⊢
    exact h
  | ok d st1 =>
    rw [q] at h
    have h : Post C (RI C) W σ Q st.length μ H (match itemsD d with | some xs => .ok xs st1 | none => .no) := h
    have fin : ∀ {K : TE → TI} (hp : PI X tg e (K (TD C W m))) (G : VK), (∀ v μ' H', Ext st.length μ H st1.length μ' H' → C.Rel μ' st1 H' → Dat C.K st1.length μ' H' v d → G v H') → ((TD C W m) σ H G → K (TD C W m) σ H Q) → ∃ t, PI X tg e t ∧ t σ H Q := fun hp G hG hk =>
      ⟨_, hp, hk ⟨μ, ρ, st, R, E, by rw [q]; exact hG⟩⟩
    cases d with
    | lst xs =>
      refine fin (K := iList X.K) (pi_list he) _ (fun v μ' H' e1 R1 d1 => ?_) id
      obtain ⟨a, vs, rfl, hs, hl, hk⟩ := list_stays d1 (xs := xs) rfl
      refine ⟨a, rfl, ⟨vs, by rw [hK]; exact hk _ _ _ Ext.refl⟩, ?_⟩
      rw [hK]
      exact h (Itl C.K a) μ' H' e1 R1 ⟨wk_list hs hk, hl⟩
    | frz xs =>
      refine fin (K := iList X.K) (pi_list he) _ (fun v μ' H' e1 R1 d1 => ?_) id
      obtain ⟨a, vs, rfl, hs, hl, hk⟩ := list_stays d1 (xs := xs) rfl
      refine ⟨a, rfl, ⟨vs, by rw [hK]; exact hk _ _ _ Ext.refl⟩, ?_⟩
      rw [hK]
      exact h (Itl C.K a) μ' H' e1 R1 ⟨wk_list hs hk, hl⟩
    | tup xs =>
      refine fin (K := iTup X.K) (pi_tup he) _ (fun v μ' H' e1 R1 d1 => ?_) id
      cases d1 with
      | @tup a vs _ hT hl hs =>
        refine ⟨a, rfl, ⟨vs, by rw [hK]; exact hT⟩, ?_⟩
        rw [hK]
        exact h (Itt C.K a) μ' H' e1 R1 ⟨wk_tup hs hT, hl⟩
    | str s =>
      refine fin (K := iStr) (pi_str he) _ (fun v μ' H' e1 R1 d1 => ?_) id
      cases d1 with
      | str hl ok => exact ⟨s, rfl, h (Its s) μ' H' e1 R1 ⟨wk_str ok, by rw [List.length_map, Array.length_toList]; exact hl⟩⟩
    | _ => exact False.elim h
def mRange1 (a : M D) : M (List D) := fun ρ st => (a ρ st).bind fun d st1 => match d with
  | .int j => if j ≤ sizeLine ∧ -(2 ^ 62) ≤ j then .ok (rangeD 0 j.toNat) st1 else .no
  | _ => .no
def mRange2 (a b : M D) : M (List D) := fun ρ st => (a ρ st).bind fun d st1 => (b ρ st1).bind fun e st2 => match d, e with
  | .int i, .int j => if -(2 ^ 62) ≤ i ∧ i < 2 ^ 62 ∧ -(2 ^ 62) ≤ j ∧ j < 2 ^ 62 ∧ j - i ≤ sizeLine then .ok (rangeD i (j - i).toNat) st2 else .no
  | _, _ => .no
/-- a list (tracked or frozen) that stays, walked with numbers -/
def mEnum (a : M D) : M (List D) := fun ρ st => (a ρ st).bind fun d st1 => match listOf [] d with
  | some xs => .ok (enumD xs) st1
  | none => .no
def mZip (a b : M D) : M (List D) := fun ρ st => (a ρ st).bind fun d st1 => (b ρ st1).bind fun e st2 => match listOf [] d, listOf [] e with
  | some xs, some ys => .ok (zipD xs ys) st2
  | _, _ => .no
theorem td_args1 {a : M D} {k : V → Hp → Prop} {σ : L2.St} {H : Hp} (h : TD C W a σ H k) : TDA C W (mCons a mNil) σ H fun vs H1 => ∃ v, vs = [v] ∧ k v H1 := by
  obtain ⟨μ, ρ, st, R, E, h⟩ := h
  refine ⟨μ, ρ, st, R, E, ?_⟩
  unfold mCons mNil
  cases q : a ρ st with
  | no => rw [q] at h; exact h
  | ex x st1 => rw [q] at h; exact h
  | ok d st1 =>
    rw [q] at h
    intro vs μ' H' e R1 dl
    cases dl with
    | cons d1 d2 =>
      cases d2
      exact ⟨_, rfl, h _ μ' H' e R1 d1⟩
theorem td_args2 {a b : M D} {k : V → V → Hp → Prop} {σ : L2.St} {H : Hp} (h : TD C W a σ H fun x H1 => TD C W b σ H1 fun y H2 => k x y H2) : tCons (TD C W a) (tCons (TD C W b) tNil) σ H fun vs H1 => ∃ v w, vs = [v, w] ∧ k v w H1 := by
  obtain ⟨μ, ρ, st, R, E, h⟩ := h
  refine ⟨μ, ρ, st, R, E, h.imp fun v H1 h1 => ?_⟩
  obtain ⟨μ, ρ, st, R, E, h⟩ := h1
  exact ⟨μ, ρ, st, R, E, h.imp fun w H2 h2 => ⟨v, w, rfl, h2⟩⟩
theorem td_args1' {a : M D} {k : V → Hp → Prop} {σ : L2.St} {H : Hp} (h : TD C W a σ H k) : tCons (TD C W a) tNil σ H fun vs H1 => ∃ v, vs = [v] ∧ k v H1 := by
  obtain ⟨μ, ρ, st, R, E, h⟩ := h
  exact ⟨μ, ρ, st, R, E, h.imp fun v H1 h1 => ⟨v, rfl, h1⟩⟩
end
section
variable {C : Cf} {X : Cx} {W : WX}
theorem tCons_mono {ta : TE} {Q Q' : List V → Hp → Prop} {σ : L2.St} {H : Hp} {a : M D} (h : tCons (TD C W a) tNil σ H Q) (hq : ∀ vs H1, Q vs H1 → Q' vs H1) : tCons (TD C W a) tNil σ H Q' := by
  obtain ⟨μ, ρ, st, R, E, h⟩ := h
  exact ⟨μ, ρ, st, R, E, h.imp fun v H1 h1 => hq _ _ h1⟩
theorem pi_rangeD1 {tg a : Expr} {p pos : Pos} {m : M D} (hg : Gl X "range") (hm : X.mg "range" = none) (ha : PE X a (TD C W m)) (hs : starEach [a] X.env = [(false, eval a X.env)]) : PI X tg (.Call (.Name "range" p) [a] [] pos) (TDI C W (mRange1 m)) := by
  refine PI.choose fun σ H Q h => ⟨_, pi_range1 hg hm (pa_cons ha pa_nil hs) hs, ?_⟩
  obtain ⟨μ, ρ, st, R, E, h⟩ := h
  refine ⟨μ, ρ, st, R, E, (Post.bind (R := Dat) h).imp fun v H1 ⟨x, st1, μ1, _, e1, R1, d1, h1⟩ => ?_⟩
  cases d1 with
  | int j =>
    have h1 : Post C (RI C) W σ Q st1.length μ1 H1 (if j ≤ sizeLine ∧ -(2 ^ 62) ≤ j then .ok (rangeD 0 j.toNat) st1 else .no) := h1
    split at h1
    · rename_i hc
      have : (sizeLine : Int) < 2 ^ 62 := by decide
      exact ⟨j, rfl, hc.2, by omega, h1 (Itr 0 j.toNat) μ1 H1 Ext.refl R1 ⟨wk_range, by rw [rangeD_len]; omega⟩⟩
    · exact False.elim h1
  | _ => exact False.elim h1
theorem pi_rangeD2 {tg a b : Expr} {p pos : Pos} {m m' : M D} (hg : Gl X "range") (hm : X.mg "range" = none) (ha : PE X a (TD C W m)) (hb : PE X b (TD C W m')) (hs : starEach [a, b] X.env = [(false, eval a X.env), (false, eval b X.env)]) (hs2 : starEach [b] X.env = [(false, eval b X.env)]) :
    PI X tg (.Call (.Name "range" p) [a, b] [] pos) (TDI C W (mRange2 m m')) := by
  refine PI.choose fun σ H Q h => ⟨_, pi_range2 hg hm (pa_cons ha (pa_cons hb pa_nil hs2) (by rw [hs, hs2])) hs hs2, ?_⟩
  obtain ⟨μ, ρ, st, R, E, h⟩ := h
  refine ⟨μ, ρ, st, R, E, (Post.bind (R := Dat) h).imp fun v H1 ⟨x, st1, μ1, _, e1, R1, d1, h1⟩ => ?_⟩
  refine ⟨μ1, ρ, st1, R1, E.ext e1, (Post.bind (R := Dat) h1).imp fun w H2 ⟨y, st2, μ2, _, e2, R2, d2, h2⟩ => ?_⟩
  cases d1 with
  | int i =>
    cases d2 with
    | int j =>
      have h2 : Post C (RI C) W σ Q st2.length μ2 H2 (if -(2 ^ 62) ≤ i ∧ i < 2 ^ 62 ∧ -(2 ^ 62) ≤ j ∧ j < 2 ^ 62 ∧ j - i ≤ sizeLine then .ok (rangeD i (j - i).toNat) st2 else .no) := h2
      split at h2
      · rename_i hc
        exact ⟨i, j, rfl, ⟨hc.1, hc.2.1, hc.2.2.1, hc.2.2.2.1⟩, h2 (Itr i (j - i).toNat) μ2 H2 Ext.refl R2 ⟨wk_range, by rw [rangeD_len]; omega⟩⟩
      · exact False.elim h2
    | _ => exact False.elim h2
  | _ => exact False.elim h2
theorem pi_enumD (hK : X.K = C.K) {e : Expr} {p pos tpos : Pos} {elts : List Expr} {kk : Nat} {m : M D} (hg : Gl X "enumerate") (hm : X.mg "enumerate" = none) (ha : PE X e (TD C W m)) (hs : starEach [e] X.env = [(false, eval e X.env)]) :
    PI X (.Tuple elts kk tpos) (.Call (.Name "enumerate" p) [e] [] pos) (TDI C W (mEnum m)) := by
  refine PI.choose fun σ H Q h => ⟨_, pi_enum hg hm (pa_cons ha pa_nil hs) hs, ?_⟩
  obtain ⟨μ, ρ, st, R, E, h⟩ := h
  refine ⟨μ, ρ, st, R, E, (Post.bind (R := Dat) h).imp fun v H1 ⟨x, st1, μ1, _, e1, R1, d1, h1⟩ => ?_⟩
  cases q : listOf [] x with
  | none => simp only [q] at h1; exact False.elim h1
  | some xs =>
    simp only [q] at h1
    obtain ⟨a, vs, rfl, hs, hl, hk⟩ := list_stays d1 q
    refine ⟨a, vs, rfl, by rw [hK]; exact hk _ _ _ Ext.refl, ?_⟩
    rw [hK]
    exact h1 (Ite C.K a) μ1 H1 Ext.refl R1 ⟨wk_enum hs hk, by rw [enumD_len]; exact hl⟩
theorem pi_zipD (hK : X.K = C.K) {e e2 : Expr} {p pos tpos : Pos} {elts : List Expr} {kk : Nat} {m m' : M D} (hg : Gl X "zip") (hm : X.mg "zip" = none) (ha : PE X e (TD C W m)) (hb : PE X e2 (TD C W m'))
    (hs : starEach [e, e2] X.env = (false, eval e X.env) :: starEach [e2] X.env) (hs2 : starEach [e2] X.env = [(false, eval e2 X.env)]) :
    PI X (.Tuple elts kk tpos) (.Call (.Name "zip" p) [e, e2] [] pos) (TDI C W (mZip m m')) := by
  refine PI.choose fun σ H Q h => ⟨_, pi_zip hg hm (pa_cons ha (pa_cons hb pa_nil hs2) hs) hs (by rw [hs2]; rfl), ?_⟩
  obtain ⟨μ, ρ, st, R, E, h⟩ := h
  refine ⟨μ, ρ, st, R, E, (Post.bind (R := Dat) h).imp fun v H1 ⟨x, st1, μ1, _, e1, R1, d1, h1⟩ => ?_⟩
  refine ⟨μ1, ρ, st1, R1, E.ext e1, (Post.bind (R := Dat) h1).imp fun w H2 ⟨y, st2, μ2, _, e2, R2, d2, h2⟩ => ?_⟩
  cases q : listOf [] x with
  | none => simp only [q] at h2; exact False.elim h2
  | some xs =>
    cases q2 : listOf [] y with
    | none => simp only [q, q2] at h2; exact False.elim h2
    | some ys =>
      simp only [q, q2] at h2
      obtain ⟨a, vs, rfl, hs, hl, hk⟩ := list_stays (d1.ext e2) q
      obtain ⟨b, us, rfl, hs', hl', hk'⟩ := list_stays d2 q2
      refine ⟨a, b, vs, us, rfl, by rw [hK]; exact hk _ _ _ Ext.refl, by rw [hK]; exact hk' _ _ _ Ext.refl, ?_⟩
      rw [hK]
      refine h2 (Itz C.K a b) μ2 H2 Ext.refl R2 ⟨wk_zip hs hs' hk hk', ?_⟩
      have : (zipD xs ys).length = min xs.length ys.length := by simp [zipD]
      rw [this]; omega
end
end Mi
/-! Mi9: targets, comprehensions. -/
namespace Mi
open PySem L2

inductive Tgt where
  | one (i : Nat) | many (is : List Nat)
def setD : List Nat → List D → Rho → Rho
  | i :: is, d :: ds, ρ => setD is ds (ρ.set i (some d))
  | _, _, ρ => ρ
def setV : List Nat → List V → L2.St → L2.St
  | i :: is, v :: vs, σ => setV is vs (σ.set i (some v))
  | _, _, σ => σ
def bindT : Tgt → D → Rho → Option Rho
  | .one i, d, ρ => some (ρ.set i (some d))
  | .many is, .tup ds, ρ => if ds.length = is.length then some (setD is ds ρ) else none
  | .many _, _, _ => none
def gNames : List Nat → TGs
  | [] => gNil
  | i :: is => gCons (gName i) (gNames is)
def gOf (K : PySem.W.Frag) : Tgt → TG
  | .one i => gName i
  | .many is => gTup K is.length (gNames is)
def Tgt.slots : Tgt → List Nat
  | .one i => [i]
  | .many is => is
/-- the slots behind a target -/
def setT : Tgt → V → List V → L2.St → L2.St
  | .one i, v, _, σ => σ.set i (some v)
  | .many is, _, vs, σ => setV is vs σ
section
variable {C : Cf} {X : Cx} {μ : Mu} {n : Nat} {st : Store} {H : Hp} {W : WX} {σ : L2.St} {ρ : Rho}
theorem EnvR.setAll : ∀ {is : List Nat} {vs : List V} {ds : List D} {σ : L2.St} {ρ : Rho}, EnvR C.K n μ H σ ρ → DatL C.K n μ H vs ds → EnvR C.K n μ H (setV is vs σ) (setD is ds ρ)
  | [], _, _, _, _, h, _ => by
    unfold setV setD
    exact h
  | i :: is, _, _, σ, ρ, h, .nil => h
  | i :: is, _, _, σ, ρ, h, .cons d t => EnvR.setAll (is := is) (h.set d i) t
theorem gNames_ok : ∀ {is : List Nat} {vs : List V} {σ : L2.St} {Q : L2.St → Hp → Prop}, vs.length = is.length → Q (setV is vs σ) H → gNames is vs σ H Q
  | [], [], σ, Q, _, h => ⟨rfl, h⟩
  | [], _ :: _, _, _, e, _ => by cases e
  | _ :: _, [], _, _, e, _ => by cases e
  | i :: is, v :: vs, σ, Q, e, h => ⟨v, vs, rfl, gNames_ok (is := is) (by simpa using e) h⟩
theorem gOf_ok (hK : X.K = C.K) {t : Tgt} {v : V} {d : D} {ρ' : Rho} {Q : L2.St → Hp → Prop} (E : EnvR C.K n μ H σ ρ) (hd : Dat C.K n μ H v d) (e : bindT t d ρ = some ρ')
    (h : ∀ vs, EnvR C.K n μ H (setT t v vs σ) ρ' → Q (setT t v vs σ) H) : gOf X.K t v σ H Q := by
  cases t with
  | one i =>
    cases e
    exact h [] (E.set hd i)
  | many is =>
    cases d with
    | tup ds =>
      have e' : (if ds.length = is.length then some (setD is ds ρ) else none) = some ρ' := e
      split at e'
      · rename_i hl
        cases e'
        cases hd with
        | @tup a vs _ hT hz hs =>
          exact ⟨a, vs, rfl, by rw [hK]; exact hT, by rw [hs.length]; exact hl, gNames_ok (by rw [hs.length]; exact hl) (h vs (E.setAll hs))⟩
      · cases e'
    | _ => cases e
/-! ### wiping -/
def wipeD (ρ : Rho) : List Nat → Rho
  | [] => ρ
  | v :: vs => (wipeD ρ vs).set v none
theorem EnvR.wipe (h : EnvR C.K n μ H σ ρ) : ∀ vs : List Nat, EnvR C.K n μ H (L2.wipe σ vs) (wipeD ρ vs)
  | [] => h
  | v :: vs => (EnvR.wipe h vs).unset v
theorem wipe_get {vs : List Nat} {σ : L2.St} {i : Nat} : (wipe σ vs)[i]? = if i ∈ vs ∧ i < σ.length then some none else σ[i]? := by
  induction vs with
  | nil => simp [wipe]
  | cons v vs ih =>
    unfold wipe
    by_cases h : v = i
    · subst h
      by_cases hl : v < σ.length
      · rw [List.getElem?_set_self (by rw [wipe_length]; exact hl), if_pos ⟨List.mem_cons_self .., hl⟩]
      · rw [if_neg (fun z => hl z.2), List.getElem?_eq_none (by rw [List.length_set, wipe_length]; omega), List.getElem?_eq_none (by omega)]
    · rw [List.getElem?_set_ne h, ih]
      have : (i ∈ vs ∧ i < σ.length) ↔ (i ∈ v :: vs ∧ i < σ.length) := by
        simp only [List.mem_cons]
        constructor
        · exact fun z => ⟨.inr z.1, z.2⟩
        · exact fun z => ⟨z.1.resolve_left (fun q => h q.symm), z.2⟩
      by_cases hc : i ∈ vs ∧ i < σ.length
      · rw [if_pos hc, if_pos (this.mp hc)]
      · rw [if_neg hc, if_neg (fun z => hc (this.mpr z))]
theorem wipe_set {vs : List Nat} {σ : L2.St} {i : Nat} {v : Option V} (hi : i ∈ vs) : wipe (σ.set i v) vs = wipe σ vs := by
  refine List.ext_getElem? fun j => ?_
  rw [wipe_get, wipe_get, List.length_set]
  by_cases hc : j ∈ vs ∧ j < σ.length
  · rw [if_pos hc, if_pos hc]
  · rw [if_neg hc, if_neg hc]
    by_cases e : i = j
    · subst e
      have : ¬ i < σ.length := fun z => hc ⟨hi, z⟩
      rw [List.getElem?_eq_none (by rw [List.length_set]; omega), List.getElem?_eq_none (by omega)]
    · rw [List.getElem?_set_ne e]
theorem wipe_wipe {vs : List Nat} {σ : L2.St} : wipe (wipe σ vs) vs = wipe σ vs := by
  refine List.ext_getElem? fun j => ?_
  rw [wipe_get, wipe_length, wipe_get]
  by_cases hc : j ∈ vs ∧ j < σ.length
  · rw [if_pos hc, if_pos hc]
  · rw [if_neg hc]
theorem wipe_setV {vs : List Nat} : ∀ {is : List Nat} {us : List V} {σ : L2.St}, (∀ i ∈ is, i ∈ vs) → wipe (setV is us σ) vs = wipe σ vs
  | [], _, _, _ => by unfold setV; rfl
  | i :: is, [], σ, _ => rfl
  | i :: is, u :: us, σ, h => by
    show wipe (setV is us (σ.set i (some u))) vs = _
    rw [wipe_setV (is := is) fun j hj => h j (List.mem_cons_of_mem _ hj), wipe_set (h i (List.mem_cons_self ..))]
theorem wipe_setT {vs : List Nat} {t : Tgt} {v : V} {us : List V} (h : ∀ i ∈ t.slots, i ∈ vs) : wipe (setT t v us σ) vs = wipe σ vs := by
  cases t with
  | one i => exact wipe_set (h i (List.mem_cons_self ..))
  | many is => exact wipe_setV h
end

/-! ### comprehensions -/
/-- an exception within is nothing that can be told -/
def O.strict {α : Type} : O α → O α
  | .ex _ _ => .no
  | o => o
def lcGo (ρ : Rho) (t : Tgt) (c : M Bool) (e : M D) : List D → Store → O (List D)
  | [], st => .ok [] st
  | d :: r, st => match bindT t d ρ with
    | none => .no
    | some ρ1 => (c ρ1 st).strict.bind fun b st1 => if b = true then (e ρ1 st1).strict.bind fun y st2 => (lcGo ρ t c e r st2).bind fun ys st3 => .ok (y :: ys) st3 else lcGo ρ t c e r st1
def mLc (m : Bool) (it : M (List D)) (t : Tgt) (vs : List Nat) (c : M Bool) (e : M D) : M D := fun ρ st => (it ρ st).bind fun ds st1 => (lcGo (wipeD ρ vs) t c e ds st1).bind (mkL m)
theorem lcGo_len {ρ : Rho} {t : Tgt} {c : M Bool} {e : M D} : ∀ {ds : List D} {st st' : Store} {ys : List D}, lcGo ρ t c e ds st = .ok ys st' → ys.length ≤ ds.length
  | [], st, st', ys, h => by cases h; exact Nat.le_refl _
  | d :: r, st, st', ys, h => by
    unfold lcGo at h
    cases q : bindT t d ρ with
    | none => simp only [q] at h; cases h
    | some ρ1 =>
      simp only [q] at h
      cases q1 : (c ρ1 st).strict with
      | no => simp only [q1, O.bind] at h; cases h
      | ex x s => simp only [q1, O.bind] at h; cases h
      | ok b st1 =>
        simp only [q1, O.bind] at h
        cases b with
        | false =>
          simp only [Bool.false_eq_true, if_false] at h
          have := lcGo_len h
          rw [List.length_cons]; omega
        | true =>
          simp only [if_true] at h
          cases q2 : (e ρ1 st1).strict with
          | no => simp only [q2] at h; cases h
          | ex x s => simp only [q2] at h; cases h
          | ok y st2 =>
            simp only [q2] at h
            cases q3 : lcGo ρ t c e r st2 with
            | no => simp only [q3] at h; cases h
            | ex x s => simp only [q3] at h; cases h
            | ok zs st3 =>
              simp only [q3] at h
              cases h
              have := lcGo_len q3
              rw [List.length_cons, List.length_cons]; omega
section
variable {C : Cf} {X : Cx} {W : WX}
abbrev W0 : WX := fun _ _ _ _ => False
/-- while the list at p is made -/
theorem hold_ext {μ : Mu} {st : Store} {H : Hp} (R : C.Rel μ st H) {p : Addr} {vs : List V} (hp : H p = none) : Ext st.length μ H st.length (mhold μ p) (upd H p (.lst vs)) ∧ C.Rel (mhold μ p) st (upd H p (.lst vs)) := by
  obtain ⟨E, nl⟩ := R.fresh (o := .lst vs) hp
  have E2 : Ext st.length μ H st.length (mhold μ p) (upd H p (.lst vs)) := ⟨⟨E.le, E.mu, E.keep, fun i h1 h2 => absurd h1 (by omega), fun a h => .inl h, fun a h => h.elim .inl fun z => .inr (by rw [z]; exact hp), E.tups, E.dom⟩, E.all⟩
  refine ⟨E2, ⟨R.inj, fun i o q => ?_, fun i hi => .inl (R.liv i hi), fun a z => ?_⟩⟩
  · exact (R.obj i o q).ext E2 fun u hu => by rw [upd_ne (ne_of_none hu hp)]; exact hu
  · rcases z with z | z
    · obtain ⟨u, h, h'⟩ := R.trk a z
      exact ⟨u, by rw [upd_ne (ne_of_none h hp)]; exact h, h'⟩
    · rw [z]; exact ⟨_, upd_same, (fun _ q => by cases q), (fun _ _ q => by cases q)⟩
/-- a held list changes -/
theorem hold_set {μ : Mu} {st : Store} {H : Hp} (R : C.Rel μ st H) {p : Addr} {vs : List V} (hp : μ.L p) (hn : ∀ i, i < st.length → μ i ≠ p) : Wx st.length μ H st.length μ (upd H p (.lst vs)) ∧ C.Rel μ st (upd H p (.lst vs)) := by
  have E := R.wx_set (o := .lst vs) hp
  refine ⟨E, ⟨R.inj, fun i o q => ?_, R.liv, fun a z => ?_⟩⟩
  · exact (R.obj i o q).wx E fun u hu => by rw [upd_ne (hn i (List.getElem?_eq_some_iff.mp q).1)]; exact hu
  · by_cases e : a = p
    · rw [e]; exact ⟨_, upd_same, (fun _ q => by cases q), (fun _ _ q => by cases q)⟩
    · obtain ⟨u, h, h'⟩ := R.trk a z
      exact ⟨u, by rw [upd_ne e]; exact h, h'⟩
/-- what was not yet there at the beginning may change -/
theorem Ext.mut {n n1 : Nat} {μ μ1 : Mu} {H H1 : Hp} (e : Ext n μ H n1 μ1 H1) {p : Addr} {o : HO} (hp : H p = none) : Ext n μ H n1 μ1 (upd H1 p o) :=
  ⟨⟨e.le, e.mu, fun a u h nl => by rw [upd_ne (ne_of_none h hp)]; exact e.keep a u h nl, e.new, e.lv, e.fr, fun a xs h => by
      have ne : a ≠ p := by
        rcases h with h | ⟨b, h⟩ <;> exact ne_of_none h hp
      rcases e.tups a xs h with q | ⟨b, q⟩
      · exact .inl (by rw [upd_ne ne]; exact q)
      · exact .inr ⟨b, by rw [upd_ne ne]; exact q⟩, fun a h => by
      by_cases q : a = p
      · rw [q]; exact hp
      · rw [upd_ne q] at h; exact e.dom a h⟩, fun a u h nl => by rw [upd_ne (ne_of_none h hp)]; exact e.all a u h nl⟩
/-- let go -/
def mfree (μ : Mu) (p : Addr) : Mu := ⟨μ.f, fun a => μ.L a ∧ a ≠ p⟩
mutual
theorem Dat.less {K : PySem.W.Frag} {n n' : Nat} {μ μ' : Mu} {H : Hp} (hn : n ≤ n') (hf : ∀ i, i < n → μ' i = μ i) (hL : ∀ a, μ'.L a → μ.L a) : ∀ {v : V} {d : D}, Dat K n μ H v d → Dat K n' μ' H v d
  | _, _, .non => .non
  | _, _, .bl b => .bl b
  | _, _, .int i => .int i
  | _, _, .str h ok => .str h ok
  | _, _, .tup h hl hs => .tup h hl (DatL.less hn hf hL hs)
  | _, _, .lst h nl hl hs => .lst h (fun z => nl (hL _ z)) hl (DatL.less hn hf hL hs)
  | _, _, .dct h nl hl hs => .dct h (fun z => nl (hL _ z)) hl (DatK.less hn hf hL hs)
  | _, _, .frz h hl hs => .frz (h.less hL) hl (DatL.less hn hf hL hs)
  | _, _, .ref (i := i) h => by
    rw [← hf i h]
    exact .ref (Nat.lt_of_lt_of_le h hn)
theorem DatL.less {K : PySem.W.Frag} {n n' : Nat} {μ μ' : Mu} {H : Hp} (hn : n ≤ n') (hf : ∀ i, i < n → μ' i = μ i) (hL : ∀ a, μ'.L a → μ.L a) : ∀ {vs : List V} {ds : List D}, DatL K n μ H vs ds → DatL K n' μ' H vs ds
  | _, _, .nil => .nil
  | _, _, .cons h t => .cons (Dat.less hn hf hL h) (DatL.less hn hf hL t)
theorem DatK.less {K : PySem.W.Frag} {n n' : Nat} {μ μ' : Mu} {H : Hp} (hn : n ≤ n') (hf : ∀ i, i < n → μ' i = μ i) (hL : ∀ a, μ'.L a → μ.L a) : ∀ {vs : List (Key × V)} {ds : List (Key × D)}, DatK K n μ H vs ds → DatK K n' μ' H vs ds
  | _, _, .nil => .nil
  | _, _, .cons h t => .cons (Dat.less hn hf hL h) (DatK.less hn hf hL t)
end
theorem DatF.less {K : PySem.W.Frag} {n n' : Nat} {μ μ' : Mu} {H : Hp} (hn : n ≤ n') (hf : ∀ i, i < n → μ' i = μ i) (hL : ∀ a, μ'.L a → μ.L a) : ∀ {vs : List (Str × V)} {ds : List (Str × D)}, DatF K n μ H vs ds → DatF K n' μ' H vs ds
  | _, _, .nil => .nil
  | _, _, .cons h t => .cons (Dat.less hn hf hL h) (DatF.less hn hf hL t)
theorem ObR.less {K : PySem.W.Frag} {cls : Nat → Addr} {n n' : Nat} {μ μ' : Mu} {H : Hp} (hn : n ≤ n') (hf : ∀ i, i < n → μ' i = μ i) (hL : ∀ a, μ'.L a → μ.L a) {a : Addr} {o : Ob} (h : ObR K cls n μ H a o) : ObR K cls n' μ' H a o := by
  cases o with
  | lst ds => obtain ⟨vs, h, q, z⟩ := h; exact ⟨vs, h, q.less hn hf hL, z⟩
  | dct ds => obtain ⟨vs, h, q, z⟩ := h; exact ⟨vs, h, q.less hn hf hL, z⟩
  | ins c fs => obtain ⟨dx, vs, h, q, z⟩ := h; exact ⟨dx, vs, h, q.less hn hf hL, z⟩
theorem Rel.free {μ : Mu} {st : Store} {H : Hp} (R : C.Rel μ st H) {p : Addr} (hn : ∀ i, i < st.length → μ i ≠ p) : C.Rel (mfree μ p) st H :=
  ⟨R.inj, fun i o q => ObR.less (μ := μ) (μ' := mfree μ p) (Nat.le_refl _) (fun _ _ => rfl) (fun a (z : (mfree μ p).L a) => z.1) (R.obj i o q), fun i hi => ⟨R.liv i hi, hn i hi⟩, fun a z => R.trk a z.1⟩
/-- a held object becomes the store's last one -/
def madopt (μ : Mu) (n : Nat) (p : Addr) : Mu := ⟨fun i => if i = n then p else μ i, μ.L⟩
theorem madopt_at (μ : Mu) (n : Nat) (p : Addr) : madopt μ n p n = p := if_pos rfl
theorem madopt_ne {μ : Mu} {n i : Nat} {p : Addr} (h : i ≠ n) : madopt μ n p i = μ i := if_neg h
theorem Rel.adopt {μ : Mu} {st : Store} {H : Hp} (R : C.Rel μ st H) {p : Addr} {ob : Ob} (hL : μ.L p) (nm : ∀ i, i < st.length → μ i ≠ p) (ho : ObR C.K C.cls (st.length + 1) (madopt μ st.length p) H p ob) : C.Rel (madopt μ st.length p) (st ++ [ob]) H := by
  have el : (st ++ [ob]).length = st.length + 1 := by simp
  refine ⟨fun i j hi hj e => ?_, fun i o' q => ?_, fun i hi => ?_, R.trk⟩
  · rw [el] at hi hj
    by_cases h1 : i = st.length
    · by_cases h2 : j = st.length
      · omega
      · rw [h1, madopt_at, madopt_ne h2] at e
        exact absurd e.symm (nm j (by omega))
    · by_cases h2 : j = st.length
      · rw [h2, madopt_at, madopt_ne h1] at e
        exact absurd e (nm i (by omega))
      · rw [madopt_ne h1, madopt_ne h2] at e
        exact R.inj i j (by omega) (by omega) e
  · rw [el]
    by_cases h1 : i < st.length
    · rw [List.getElem?_append_left h1] at q
      rw [madopt_ne (Nat.ne_of_lt h1)]
      exact (R.obj i o' q).less (Nat.le_succ _) (fun j hj => madopt_ne (Nat.ne_of_lt hj)) fun a z => z
    · have h2 : i = st.length := by
        have := (List.getElem?_eq_some_iff.mp q).1
        rw [el] at this
        omega
      subst h2
      rw [List.getElem?_append_right (Nat.le_refl _), Nat.sub_self] at q
      have : ob = o' := Option.some.inj q
      subst this
      rw [madopt_at]
      exact ho
  · rw [el] at hi
    by_cases h1 : i = st.length
    · rw [h1, madopt_at]; exact hL
    · rw [madopt_ne h1]; exact R.liv i (by omega)
/-- the end of a list's making: frozen, or live -/
theorem end_made {μ0 μ : Mu} {n0 : Nat} {H0 H : Hp} {st : Store} {p : Addr} {vs : List V} {ys : List D} {m : Bool} {σ : L2.St} {Q : VK} (hp0 : H0 p = none) (nl0 : ¬ μ0.L p) (E : Ext n0 μ0 H0 st.length μ H) (R : C.Rel μ st H) (hp : H p = some (.lst vs)) (hL : μ.L p) (hn : ∀ i, i < st.length → μ i ≠ p)
    (hs : DatL C.K st.length μ H vs ys) (h : Post C Dat W σ Q n0 μ0 H0 (mkL m ys st)) : Q (.ref p) H := by
  unfold mkL at h
  by_cases hl : ys.length ≤ sizeLine
  · rw [if_pos hl] at h
    have hnl : ¬ (mfree μ p).L p := fun z => z.2 rfl
    have R1 : C.Rel (mfree μ p) st H := R.free hn
    cases m with
    | true =>
      have el : (st ++ [Ob.lst ys]).length = st.length + 1 := by simp
      have h' : Post C Dat W σ Q n0 μ0 H0 (.ok (.ref st.length) (st ++ [.lst ys])) := h
      refine h' (.ref p) (madopt μ st.length p) H ?_ (R.adopt hL hn ⟨vs, hp, hs.less (Nat.le_succ _) (fun j hj => madopt_ne (Nat.ne_of_lt hj)) fun a z => z, hl⟩) ?_
      · rw [el]
        refine ⟨⟨Nat.le_succ_of_le E.le, fun i hi => ?_, E.keep, fun i h1 h2 => ?_, E.lv, E.fr, E.tups, E.dom⟩, E.all⟩
        · rw [madopt_ne (Nat.ne_of_lt (Nat.lt_of_lt_of_le hi E.le))]; exact E.mu i hi
        · by_cases h3 : i = st.length
          · rw [h3, madopt_at]; exact hp0
          · rw [madopt_ne h3]; exact E.new i h1 (by omega)
      · rw [el]
        have z : Dat C.K (st.length + 1) (madopt μ st.length p) H (.ref (madopt μ st.length p st.length)) (.ref st.length) := .ref (Nat.lt_succ_self _)
        rw [madopt_at] at z
        exact z
    | false =>
      have h' : Post C Dat W σ Q n0 μ0 H0 (.ok (.lst ys) st) := h
      exact h' (.ref p) (mfree μ p) H ⟨⟨E.le, E.mu, E.keep, E.new, fun a z => ⟨E.lv a z, fun q => nl0 (by rw [← q]; exact z)⟩, fun a z => E.fr a z.1, E.tups, E.dom⟩, E.all⟩ R1
        (.lst hp hnl hl (DatL.less (μ := μ) (μ' := mfree μ p) (Nat.le_refl _) (fun _ _ => rfl) (fun a (z : (mfree μ p).L a) => z.1) hs))
  · rw [if_neg hl] at h
    exact False.elim h
/-- [e for t in it if c] -/
theorem td_lc (hK : X.K = C.K) {m : Bool} {it : M (List D)} {t : Tgt} {vs : List Nat} {c : M Bool} {e : M D} (ht : ∀ i ∈ t.slots, i ∈ vs) {σ : L2.St} {H : Hp} {Q : VK} (h : TD C W (mLc m it t vs c e) σ H Q) :
    tLc (TDI C W it) (gOf X.K t) (TDT C W0 c) (TD C W0 e) vs σ H Q := by
  obtain ⟨μ, ρ, st, R, E, h⟩ := h
  refine ⟨μ, ρ, st, R, E, (Post.bind (R := RI C) h).imp fun J H1 ⟨ds, st1, μ1, _, e1, R1, d1, h1⟩ => ?_⟩
  obtain ⟨wk, hz⟩ := d1
  intro p hp
  obtain ⟨E1, nlp⟩ := R1.fresh (o := .lst []) hp
  have Ew : C.Env st1.length μ1 H1 (wipe σ vs) (wipeD ρ vs) := (E.ext e1).wipe vs
  -- the invariant: so many turns are gone; what is left gives what is wanted
  refine ⟨fun i k H2 => k = ds.length - i ∧ i ≤ ds.length ∧ ∃ (μ2 : Mu) (st2 : Store) (acc : List V) (ys : List D), Ext st1.length μ1 H1 st2.length μ2 H2 ∧ C.Rel μ2 st2 H2 ∧ H2 p = some (.lst acc) ∧ μ2.L p ∧ (∀ j, j < st2.length → μ2 j ≠ p) ∧ DatL C.K st2.length μ2 H2 acc ys ∧ ys.length ≤ i ∧
      Post C Dat W σ Q st1.length μ1 H1 ((lcGo (wipeD ρ vs) t c e (ds.drop i) st2).bind fun zs st3 => mkL m (ys ++ zs) st3), ⟨ds.length, by simp, Nat.zero_le _, mhold μ1 p, st1, [], [], ?_⟩, ?_⟩
  · obtain ⟨Eh, Rh⟩ := hold_ext R1 (vs := []) hp
    refine ⟨Eh, Rh, upd_same, .inr rfl, fun j hj z => nlp (by rw [← z]; exact R1.liv j hj), .nil, Nat.le_refl _, ?_⟩
    rw [List.drop_zero]
    exact h1
  · rintro i k H2 ⟨rfl, hi, μ2, st2, acc, ys, E2, R2, hp2, hL2, hn2, hs2, hy2, h2⟩
    by_cases hlt : i < ds.length
    · refine .inr ⟨wk.go _ _ _ E2 i hlt, _, fun H' h' => ⟨ds.length - (i + 1), by omega, h'⟩, fun x H3 hy => ?_⟩
      have hd : ds[i]? = some ds[i] := List.getElem?_eq_getElem hlt
      obtain ⟨E3, R3, d3⟩ := wk.yld st2 μ2 H2 E2 R2 i ds[i] x H3 hd hy
      have e3 : ds.drop i = ds[i] :: ds.drop (i + 1) := (List.getElem_cons_drop hlt).symm
      rw [e3] at h2
      unfold lcGo at h2
      cases q : bindT t ds[i] (wipeD ρ vs) with
      | none => simp only [q] at h2; exact False.elim h2
      | some ρ1 =>
        simp only [q] at h2
        have E23 := E2.trans E3
        refine gOf_ok hK (Ew.ext E23) d3 q fun us Eu => ⟨by rw [wipe_setT ht, wipe_wipe], ?_⟩
        have hp3 : H3 p = some (.lst acc) := E3.all p _ hp2 hn2
        -- the test
        refine ⟨μ2, ρ1, st2, R3, Eu, ?_⟩
        cases q1 : c ρ1 st2 with
        | no => rw [q1] at h2; exact False.elim h2
        | ex x s => rw [q1] at h2; exact False.elim h2
        | ok b st3 =>
          rw [q1] at h2
          intro b' μ3 H4 E4 R4 hb
          subst hb
          have hn3 : ∀ j, j < st3.length → μ3 j ≠ p := fun j hj z => by
            by_cases hj2 : j < st2.length
            · exact hn2 j hj2 (by rw [← E4.mu j hj2]; exact z)
            · have w := E4.new j (by omega) hj
              rw [z, hp3] at w; cases w
          have hp4 : H4 p = some (.lst acc) := E4.all p _ hp3 hn2
          cases b' with
          | false =>
            refine iteF ⟨rfl, hlt, μ3, st3, acc, ys, E23.trans E4, R4, hp4, E4.lv p hL2, hn3, (hs2.ext E3).ext E4, by omega, ?_⟩
            exact h2
          | true =>
            refine iteT ?_
            refine ⟨μ3, ρ1, st3, R4, Eu.ext E4, ?_⟩
            have h2 : Post C Dat W σ Q st1.length μ1 H1 (((e ρ1 st3).strict.bind fun y st2 => (lcGo (wipeD ρ vs) t c e (ds.drop (i + 1)) st2).bind fun ys st3 => .ok (y :: ys) st3).bind fun zs st3 => mkL m (ys ++ zs) st3) := h2
            cases q2 : e ρ1 st3 with
            | no => rw [q2] at h2; exact False.elim h2
            | ex x s => rw [q2] at h2; exact False.elim h2
            | ok y st4 =>
              rw [q2] at h2
              intro v μ4 H5 E5 R5 dv
              have hp5 : H5 p = some (.lst acc) := E5.all p _ hp4 hn3
              have hL5 : μ4.L p := E5.lv p (E4.lv p hL2)
              have hn5 : ∀ j, j < st4.length → μ4 j ≠ p := fun j hj z => by
                by_cases hj2 : j < st3.length
                · exact hn3 j hj2 (by rw [← E5.mu j hj2]; exact z)
                · have w := E5.new j (by omega) hj
                  rw [z, hp4] at w; cases w
              have hs5 := ((hs2.ext E3).ext E4).ext E5
              have E15 := (E23.trans E4).trans E5
              obtain ⟨Wm, Rm⟩ := hold_set R5 (vs := acc ++ [v]) hL5 hn5
              refine ⟨acc, hp5, ?_, rfl, hlt, μ4, st4, acc ++ [v], ys ++ [y], E15.mut hp, Rm, upd_same, hL5, hn5, (hs5.append (.cons dv .nil)).wx Wm, by rw [List.length_append]; simp; omega, ?_⟩
              · rw [hs5.length]; omega
              · have h2 : Post C Dat W σ Q st1.length μ1 H1 (((lcGo (wipeD ρ vs) t c e (ds.drop (i + 1)) st4).bind fun ys st3 => .ok (y :: ys) st3).bind fun zs st3 => mkL m (ys ++ zs) st3) := h2
                cases q3 : lcGo (wipeD ρ vs) t c e (ds.drop (i + 1)) st4 with
                | no => rw [q3] at h2; exact False.elim h2
                | ex x s => rw [q3] at h2; exact h2
                | ok zs st5 =>
                  rw [q3] at h2
                  have h2 : Post C Dat W σ Q st1.length μ1 H1 (mkL m (ys ++ y :: zs) st5) := h2
                  show Post C Dat W σ Q st1.length μ1 H1 (mkL m (ys ++ [y] ++ zs) st5)
                  rw [List.append_assoc]
                  exact h2
    · have e0 : i = ds.length := by omega
      subst e0
      rw [List.drop_length] at h2
      have h2 : Post C Dat W σ Q st1.length μ1 H1 (mkL m (ys ++ []) st2) := h2
      rw [List.append_nil] at h2
      exact .inl ⟨wk.stop _ _ _ E2, end_made hp nlp E2 R2 hp2 hL2 hn2 hs2 h2⟩
end
end Mi
/-! Mi10: statements, loops, calls. -/
namespace Mi
open PySem L2

def sNil : MS := fun ρ st => .nx ρ st
def sSeq (a b : MS) : MS := fun ρ st => match a ρ st with
  | .nx ρ1 st1 => b ρ1 st1
  | o => o
/-- an expression first, then .. -/
def O.toS {α : Type} (o : O α) (ρ : Rho) (k : α → Store → OS) : OS := match o with
  | .ok a st => k a st
  | .ex x st => .ex x ρ st
  | .no => .no
def sAsg (e : M D) (t : Tgt) : MS := fun ρ st => (e ρ st).toS ρ fun d st1 => match bindT t d ρ with
  | some ρ' => .nx ρ' st1
  | none => .no
def sExpr (e : M D) : MS := fun ρ st => (e ρ st).toS ρ fun _ st1 => .nx ρ st1
def sRet (e : M D) : MS := fun ρ st => (e ρ st).toS ρ fun d st1 => .rt d st1
def sRetN : MS := fun _ st => .rt .non st
def sIf (c : M Bool) (a b : MS) : MS := fun ρ st => (c ρ st).toS ρ fun x st1 => if x = true then a ρ st1 else b ρ st1
def sBreak : MS := fun ρ st => .bk ρ st
def sCont : MS := fun ρ st => .ct ρ st
/-- a turn of a loop, then the rest -/
def OS.turn (o : OS) (k : MS) : OS := match o with
  | .nx ρ' st' => k ρ' st'
  | .ct ρ' st' => k ρ' st'
  | .bk ρ' st' => .nx ρ' st'
  | o => o
def sWhile (c : M Bool) (b : MS) : Nat → MS
  | 0 => fun _ _ => .no
  | n + 1 => fun ρ st => (c ρ st).toS ρ fun x st1 => if x = true then (b ρ st1).turn (sWhile c b n) else .nx ρ st1
def forGo (t : Tgt) (b : MS) : List D → MS
  | [] => fun ρ st => .nx ρ st
  | d :: r => fun ρ st => match bindT t d ρ with
    | none => .no
    | some ρ1 => (b ρ1 st).turn (forGo t b r)
def sFor (it : M (List D)) (t : Tgt) (b : MS) : MS := fun ρ st => (it ρ st).toS ρ fun ds st1 => forGo t b ds ρ st1
section
variable {C : Cf} {X : Cx} {W : WX} {D : Ends} {σ : L2.St} {H : Hp}
/-- the outcome of an expression, first -/
theorem td_first {α β : Type} {R : RelT α β} {m : M α} {k : α → MS} {μ : Mu} {ρ : Rho} {st : Store} {Q : β → Hp → Prop} (Rl : C.Rel μ st H) (E : C.Env st.length μ H σ ρ)
    (h : PostS C W D st.length μ H ((m ρ st).toS ρ fun a st1 => k a ρ st1))
    (hq : ∀ (v : β) (a : α) (st1 : Store) (μ1 : Mu) (H1 : Hp), m ρ st = .ok a st1 → Ext st.length μ H st1.length μ1 H1 → C.Rel μ1 st1 H1 → C.Env st1.length μ1 H1 σ ρ → R C.K st1.length μ1 H1 v a → PostS C W D st1.length μ1 H1 (k a ρ st1) → Q v H1) : TDg C R W m σ H Q := by
  refine ⟨μ, ρ, st, Rl, E, ?_⟩
  cases q : m ρ st with
  | no => rw [q] at h; exact h
  | ex x st1 =>
    rw [q] at h
    exact fun cl dd μ' H' e r d => h cl dd σ μ' H' e r (E.ext e) d
  | ok a st1 =>
    rw [q] at h
    exact fun v μ' H' e r d => hq v a st1 μ' H' q e r (E.ext e) d (PostS.go e h)
theorem td_nil (h : TDS C W sNil D σ H) : tNext D σ H := by
  obtain ⟨μ, ρ, st, R, E, h⟩ := h
  exact h σ μ H Ext.refl R E
theorem td_seq {a b : MS} (h : TDS C W (sSeq a b) D σ H) : tSeq (TDS C W a) (TDS C W b) D σ H := by
  obtain ⟨μ, ρ, st, R, E, h⟩ := h
  refine ⟨μ, ρ, st, R, E, ?_⟩
  unfold sSeq at h
  cases q : a ρ st with
  | nx ρ1 st1 => rw [q] at h; exact fun σ' μ' H' e r d => ⟨μ', ρ1, st1, r, d, PostS.go e h⟩
  | no => rw [q] at h; exact h
  | rt d st1 => rw [q] at h; exact h
  | bk d st1 => rw [q] at h; exact h
  | ct d st1 => rw [q] at h; exact h
  | ex x d st1 => rw [q] at h; exact h
theorem td_asg (hK : X.K = C.K) {e : M Mi.D} {t : Tgt} (h : TDS C W (sAsg e t) D σ H) : tAsg (TD C W e) (gOf X.K t) D σ H := by
  obtain ⟨μ, ρ, st, R, E, h⟩ := h
  refine td_first (R := Dat) (m := e) (k := fun d ρ st1 => match bindT t d ρ with | some ρ' => .nx ρ' st1 | none => .no) R E h fun v d st1 μ1 H1 _ e1 R1 E1 d1 h1 => ?_
  cases q : bindT t d ρ with
  | none => simp only [q] at h1; exact False.elim h1
  | some ρ' =>
    simp only [q] at h1
    exact gOf_ok hK E1 d1 q fun vs Eu => h1 _ μ1 H1 Ext.refl R1 Eu
theorem td_expr {e : M Mi.D} (h : TDS C W (sExpr e) D σ H) : tDrop (TD C W e) D σ H := by
  obtain ⟨μ, ρ, st, R, E, h⟩ := h
  exact td_first (R := Dat) (m := e) (k := fun d ρ st1 => .nx ρ st1) R E h fun v d st1 μ1 H1 _ e1 R1 E1 d1 h1 => h1 σ μ1 H1 Ext.refl R1 E1
theorem td_ret {e : M Mi.D} (h : TDS C W (sRet e) D σ H) : tRet (TD C W e) D σ H := by
  obtain ⟨μ, ρ, st, R, E, h⟩ := h
  exact td_first (R := Dat) (m := e) (k := fun d ρ st1 => .rt d st1) R E h fun v d st1 μ1 H1 _ e1 R1 E1 d1 h1 => h1 v μ1 H1 Ext.refl R1 d1
theorem td_retN (h : TDS C W sRetN D σ H) : tRetN D σ H := by
  obtain ⟨μ, ρ, st, R, E, h⟩ := h
  exact h .non μ H Ext.refl R .non
theorem td_if {c : M Bool} {a b : MS} (h : TDS C W (sIf c a b) D σ H) : tIfS (TDT C W c) (TDS C W a) (TDS C W b) D σ H := by
  obtain ⟨μ, ρ, st, R, E, h⟩ := h
  refine td_first (R := RB) (m := c) (k := fun x ρ st1 => if x = true then a ρ st1 else b ρ st1) R E h fun v x st1 μ1 H1 _ e1 R1 E1 d1 h1 => ?_
  subst d1
  cases v with
  | true => exact iteT ⟨μ1, ρ, st1, R1, E1, h1⟩
  | false => exact iteF ⟨μ1, ρ, st1, R1, E1, h1⟩
theorem td_break (h : TDS C W sBreak D σ H) : tBreak D σ H := by
  obtain ⟨μ, ρ, st, R, E, h⟩ := h
  exact h σ μ H Ext.refl R E
theorem td_cont (h : TDS C W sCont D σ H) : tCont D σ H := by
  obtain ⟨μ, ρ, st, R, E, h⟩ := h
  exact h σ μ H Ext.refl R E
theorem td_while {c : M Bool} {b : MS} {n : Nat} (h : TDS C W (sWhile c b n) D σ H) : tWhile (TDT C W c) (TDS C W b) D σ H := by
  obtain ⟨μ, ρ, st, R, E, h⟩ := h
  refine ⟨fun m σ H => ∃ (μ : Mu) (ρ : Rho) (st : Store), C.Rel μ st H ∧ C.Env st.length μ H σ ρ ∧ PostS C W D st.length μ H (sWhile c b m ρ st), ⟨n, μ, ρ, st, R, E, h⟩, ?_⟩
  rintro m σ H ⟨μ, ρ, st, R, E, h⟩
  cases m with
  | zero => exact False.elim h
  | succ m =>
    refine td_first (R := RB) (m := c) (k := fun x ρ st1 => if x = true then (b ρ st1).turn (sWhile c b m) else .nx ρ st1) R E h fun v x st1 μ1 H1 _ e1 R1 E1 d1 h1 => ?_
    subst d1
    cases v with
    | false => exact iteF (h1 σ μ1 H1 Ext.refl R1 E1)
    | true =>
      refine iteT ⟨fun σ' H' => ∃ (μ : Mu) (ρ : Rho) (st : Store), C.Rel μ st H' ∧ C.Env st.length μ H' σ' ρ ∧ PostS C W D st.length μ H' (sWhile c b m ρ st), fun σ' H' q => ⟨m, Nat.lt_succ_self _, q⟩, μ1, ρ, st1, R1, E1, ?_⟩
      have h1 : PostS C W D st1.length μ1 H1 ((b ρ st1).turn (sWhile c b m)) := h1
      cases q : b ρ st1 with
      | nx ρ1 st2 => rw [q] at h1; exact fun σ' μ' H' e r d => ⟨μ', ρ1, st2, r, d, PostS.go e h1⟩
      | ct ρ1 st2 => rw [q] at h1; exact fun σ' μ' H' e r d => ⟨μ', ρ1, st2, r, d, PostS.go e h1⟩
      | bk ρ1 st2 => rw [q] at h1; exact h1
      | rt d st2 => rw [q] at h1; exact h1
      | no => rw [q] at h1; exact h1
      | ex x ρ1 st2 => rw [q] at h1; exact h1
theorem td_for (hK : X.K = C.K) {it : M (List Mi.D)} {t : Tgt} {b : MS} (h : TDS C W (sFor it t b) D σ H) : tFor (TDI C W it) (gOf X.K t) (TDS C W b) D σ H := by
  obtain ⟨μ, ρ, st, R, E, h⟩ := h
  refine td_first (R := RI C) (m := it) (k := fun ds ρ st1 => forGo t b ds ρ st1) R E h fun J ds st1 μ1 H1 _ e1 R1 E1 d1 h1 => ?_
  obtain ⟨wk, hz⟩ := d1
  refine ⟨fun i k σ2 H2 => k = ds.length - i ∧ i ≤ ds.length ∧ ∃ (μ2 : Mu) (ρ2 : Rho) (st2 : Store), Ext st1.length μ1 H1 st2.length μ2 H2 ∧ C.Rel μ2 st2 H2 ∧ C.Env st2.length μ2 H2 σ2 ρ2 ∧ PostS C W D st2.length μ2 H2 (forGo t b (ds.drop i) ρ2 st2),
    ⟨ds.length, by simp, Nat.zero_le _, μ1, ρ, st1, Ext.refl, R1, E1, by rw [List.drop_zero]; exact h1⟩, ?_⟩
  rintro i k σ2 H2 ⟨rfl, hi, μ2, ρ2, st2, X2, R2, E2, h2⟩
  by_cases hlt : i < ds.length
  · refine .inr ⟨wk.go _ _ _ X2 i hlt, fun σ' H' => (i + 1 ≤ ds.length ∧ ∃ (μ2 : Mu) (ρ2 : Rho) (st2 : Store), Ext st1.length μ1 H1 st2.length μ2 H' ∧ C.Rel μ2 st2 H' ∧ C.Env st2.length μ2 H' σ' ρ2 ∧ PostS C W D st2.length μ2 H' (forGo t b (ds.drop (i + 1)) ρ2 st2)),
      fun σ' H' q => ⟨ds.length - (i + 1), by omega, rfl, q⟩, fun x H3 hy => ?_⟩
    have hd : ds[i]? = some ds[i] := List.getElem?_eq_getElem hlt
    obtain ⟨X3, R3, d3⟩ := wk.yld st2 μ2 H2 X2 R2 i ds[i] x H3 hd hy
    have e3 : ds.drop i = ds[i] :: ds.drop (i + 1) := (List.getElem_cons_drop hlt).symm
    rw [e3] at h2
    have h2 : PostS C W D st2.length μ2 H2 (match bindT t ds[i] ρ2 with
      | none => .no
      | some ρ1 => (b ρ1 st2).turn (forGo t b (ds.drop (i + 1)))) := h2
    cases q : bindT t ds[i] ρ2 with
    | none => rw [q] at h2; exact False.elim h2
    | some ρ3 =>
      rw [q] at h2
      refine gOf_ok hK (E2.ext X3) d3 q fun us Eu => ⟨μ2, ρ3, st2, R3, Eu, ?_⟩
      have h2 := PostS.go X3 h2
      have h2 : PostS C W D st2.length μ2 H3 ((b ρ3 st2).turn (forGo t b (ds.drop (i + 1)))) := h2
      cases q2 : b ρ3 st2 with
      | nx ρ1 st3 => rw [q2] at h2; exact fun σ' μ' H' e r d => ⟨hlt, μ', ρ1, st3, (X2.trans X3).trans e, r, d, PostS.go e h2⟩
      | ct ρ1 st3 => rw [q2] at h2; exact fun σ' μ' H' e r d => ⟨hlt, μ', ρ1, st3, (X2.trans X3).trans e, r, d, PostS.go e h2⟩
      | bk ρ1 st3 => rw [q2] at h2; exact h2
      | rt d st3 => rw [q2] at h2; exact h2
      | no => rw [q2] at h2; exact h2
      | ex x ρ1 st3 => rw [q2] at h2; exact h2
  · have e0 : i = ds.length := by omega
    subst e0
    rw [List.drop_length] at h2
    exact .inl ⟨wk.stop _ _ _ X2, h2 σ2 μ2 H2 Ext.refl R2 E2⟩
end

/-! ### what a def promises -/
abbrev Fn := List D → Store → O D
def SpOf (C : Cf) (k : Nat) (f : Fn) : Sp := fun vs H Q E => ∃ (μ : Mu) (st : Store) (ds : List D), C.Rel μ st H ∧ DatL C.K st.length μ H vs ds ∧ ds.length = k ∧ Post C Dat (fun cl dd _ H' => E cl dd H') [] Q st.length μ H (f ds st)
def mCall (k : Nat) (f : Fn) (a : M (List D)) : M D := fun ρ st => (a ρ st).bind fun ds st1 => if ds.length = k then f ds st1 else .no
section
variable {C : Cf} {X : Cx} {W : WX} {σ : L2.St} {H : Hp}
theorem td_call {k : Nat} {f : Fn} {a : M (List D)} {Q : VK} (h : TD C W (mCall k f a) σ H Q) : tCallSD (SpOf C k f) [] (WE W) (TDA C W a) σ H Q := by
  obtain ⟨μ, ρ, st, R, E, h⟩ := h
  refine ⟨μ, ρ, st, R, E, (Post.bind (R := DatL) h).imp fun vs H1 ⟨ds, st1, μ1, _, e1, R1, d1, h1⟩ => ?_⟩
  by_cases hk : ds.length = k
  · rw [if_pos hk] at h1
    rw [List.append_nil]
    refine ⟨μ1, st1, ds, R1, d1, hk, ?_⟩
    cases q : f ds st1 with
    | no => rw [q] at h1; exact h1
    | ok d st2 => rw [q] at h1; exact h1
    | ex x st2 => rw [q] at h1; exact h1
  · rw [if_neg hk] at h1; exact False.elim h1
end

/-! ### the end of a def: what was made within is frozen -/
def fzAll (f : D → Option D) (xs : List D) : Option (List D) := sq (xs.map f)
def fz : Nat → Nat → Store → D → Option D
  | 0, _, _, _ => none
  | _ + 1, _, _, .non => some .non
  | _ + 1, _, _, .bl b => some (.bl b)
  | _ + 1, _, _, .int i => some (.int i)
  | _ + 1, _, _, .str s => some (.str s)
  | k + 1, n, st, .tup xs => (sq (xs.map (fz k n st))).map .tup
  | k + 1, n, st, .lst xs => (sq (xs.map (fz k n st))).map .lst
  | k + 1, n, st, .frz xs => (sq (xs.map (fz k n st))).map .frz
  | k + 1, n, st, .dct xs => (sq (xs.map fun kv => (fz k n st kv.2).map fun d => (kv.1, d))).map .dct
  | k + 1, n, st, .ref i => if i < n then some (.ref i) else match st[i]? with
    | some (.lst xs) => (sq (xs.map (fz k n st))).map .lst
    | some (.dct xs) => (sq (xs.map fun kv => (fz k n st kv.2).map fun d => (kv.1, d))).map .dct
    | _ => none
/-- the dropped objects are held no more -/
def mcut (μ : Mu) (n n' : Nat) : Mu := ⟨μ.f, fun a => μ.L a ∧ ∀ i, n ≤ i → i < n' → μ i ≠ a⟩
section
variable {C : Cf} {X : Cx} {W : WX} {σ : L2.St} {H : Hp} {μ : Mu} {n : Nat} {st : Store}
theorem sq_cons {α : Type} {o : Option α} {r : List (Option α)} {l : List α} (h : sq (o :: r) = some l) : ∃ x t, o = some x ∧ sq r = some t ∧ l = x :: t := by
  cases o with
  | none => cases h
  | some x =>
    obtain ⟨t, h1, h2⟩ := map_some (show (sq r).map (x :: ·) = some l from h)
    exact ⟨x, t, rfl, h1, h2.symm⟩
theorem sq_length {α : Type} : ∀ {os : List (Option α)} {l : List α}, sq os = some l → l.length = os.length
  | [], l, h => by cases h; rfl
  | o :: r, l, h => by
    obtain ⟨x, t, _, h2, rfl⟩ := sq_cons h
    rw [List.length_cons, List.length_cons, sq_length h2]
theorem fz_all {k : Nat} {μ' : Mu} {n0 : Nat} (ih : ∀ (v : V) (d d' : D), Dat C.K st.length μ H v d → fz k n0 st d = some d' → Dat C.K n0 μ' H v d') :
    ∀ (xs : List D) (vs : List V) (ys : List D), DatL C.K st.length μ H vs xs → sq (xs.map (fz k n0 st)) = some ys → DatL C.K n0 μ' H vs ys
  | [], vs, ys, h, e => by
    cases h
    cases e
    exact .nil
  | d :: ds, vs, ys, h, e => by
    cases h with
    | cons h1 h2 =>
      obtain ⟨x, t, q1, q2, rfl⟩ := sq_cons e
      exact .cons (ih _ d x h1 q1) (fz_all ih ds _ t h2 q2)
theorem fz_allK {k : Nat} {μ' : Mu} {n0 : Nat} (ih : ∀ (v : V) (d d' : D), Dat C.K st.length μ H v d → fz k n0 st d = some d' → Dat C.K n0 μ' H v d') :
    ∀ (xs : List (Key × D)) (vs : List (Key × V)) (ys : List (Key × D)), DatK C.K st.length μ H vs xs → sq (xs.map fun kv => (fz k n0 st kv.2).map fun d => (kv.1, d)) = some ys → DatK C.K n0 μ' H vs ys
  | [], vs, ys, h, e => by
    cases h
    cases e
    exact .nil
  | (kk, d) :: ds, vs, ys, h, e => by
    cases h with
    | cons h1 h2 =>
      obtain ⟨x, t, q1, q2, rfl⟩ := sq_cons e
      obtain ⟨d', q3, rfl⟩ := map_some q1
      exact .cons (ih _ d d' h1 q3) (fz_allK ih ds _ t h2 q2)
theorem fz_ok (R : C.Rel μ st H) {n0 : Nat} (hn : n0 ≤ st.length) : ∀ (k : Nat) (v : V) (d d' : D), Dat C.K st.length μ H v d → fz k n0 st d = some d' → Dat C.K n0 (mcut μ n0 st.length) H v d'
  | 0, _, _, _, _, e => by cases e
  | k + 1, v, d, d', h, e => by
    have key := fz_all (n0 := n0) (fz_ok R hn k)
    have keyK := fz_allK (n0 := n0) (fz_ok R hn k)
    cases h with
    | non => cases e; exact .non
    | bl b => cases e; exact .bl b
    | int i => cases e; exact .int i
    | str hl ok => cases e; exact .str hl ok
    | @tup a vs xs h hl hs =>
      obtain ⟨ys, q, rfl⟩ := map_some (show (sq (xs.map (fz k n0 st))).map D.tup = some d' from e)
      have := sq_length q
      rw [List.length_map] at this
      exact .tup h (by rw [this]; exact hl) (key xs vs ys hs q)
    | @lst a vs xs h nl hl hs =>
      obtain ⟨ys, q, rfl⟩ := map_some (show (sq (xs.map (fz k n0 st))).map D.lst = some d' from e)
      have := sq_length q
      rw [List.length_map] at this
      exact .lst h (fun z => nl z.1) (by rw [this]; exact hl) (key xs vs ys hs q)
    | @frz a vs xs h hl hs =>
      obtain ⟨ys, q, rfl⟩ := map_some (show (sq (xs.map (fz k n0 st))).map D.frz = some d' from e)
      have := sq_length q
      rw [List.length_map] at this
      exact .frz (h.less fun a (z : (mcut μ n0 st.length).L a) => z.1) (by rw [this]; exact hl) (key xs vs ys hs q)
    | @dct a vs xs h nl hl hs =>
      obtain ⟨ys, q, rfl⟩ := map_some (show (sq (xs.map fun kv => (fz k n0 st kv.2).map fun d => (kv.1, d))).map D.dct = some d' from e)
      have := sq_length q
      rw [List.length_map] at this
      exact .dct h (fun z => nl z.1) (by rw [this]; exact hl) (keyK xs vs ys hs q)
    | @ref i hi =>
      have e' : (if i < n0 then some (D.ref i) else match st[i]? with
        | some (.lst xs) => (sq (xs.map (fz k n0 st))).map .lst
        | some (.dct xs) => (sq (xs.map fun kv => (fz k n0 st kv.2).map fun d => (kv.1, d))).map .dct
        | _ => none) = some d' := e
      by_cases hc : i < n0
      · rw [if_pos hc] at e'
        cases e'
        exact .ref (μ := mcut μ n0 st.length) hc
      · rw [if_neg hc] at e'
        have nl : ¬ (mcut μ n0 st.length).L (μ i) := fun z => z.2 i (by omega) hi rfl
        cases q : st[i]? with
        | none => rw [q] at e'; cases e'
        | some o =>
          rw [q] at e'
          cases o with
          | lst xs =>
            obtain ⟨ys, q2, rfl⟩ := map_some (show (sq (xs.map (fz k n0 st))).map D.lst = some d' from e')
            obtain ⟨vs, h1, h2, h3⟩ := R.obj i _ q
            have := sq_length q2
            rw [List.length_map] at this
            exact .lst h1 nl (by rw [this]; exact h3) (key xs vs ys h2 q2)
          | dct xs =>
            obtain ⟨ys, q2, rfl⟩ := map_some (show (sq (xs.map fun kv => (fz k n0 st kv.2).map fun d => (kv.1, d))).map D.dct = some d' from e')
            obtain ⟨vs, h1, h2, h3⟩ := R.obj i _ q
            have := sq_length q2
            rw [List.length_map] at this
            exact .dct h1 nl (by rw [this]; exact h3) (keyK xs vs ys h2 q2)
          | ins _ _ => cases e'
end
end Mi
/-! Mi11: a def by its body. -/
namespace Mi
open PySem L2

structure Gd (C : Cf) (k : Nat) (X : Cx) (W : WX) : Prop where
  P : X.prog = C.P
  w : X.w = C.w
  K : X.K = C.K
  mg : X.mg = C.mg
  base : X.base = C.base
  calm : X.calm = true
  nd : X.N.Nodup
  room : Room k X.A
  tk : Takes X W
  own : PassesOwn (model X.prog X.w) X.A X.env X.xe

def startD (n : Nat) (ds : List D) : Rho := ds.map some ++ List.replicate (n - ds.length) none
open Classical in
/-- fzd: what was made within is frozen, and the store is as it was -/
noncomputable def retF (fzd : Bool) (st : Store) (d : D) (st' : Store) : O D := if fzd = true then (if st'.take st.length = st then (match fz 64 st.length st' d with
    | some d' => .ok d' st
    | none => .no) else .no) else .ok d st'
noncomputable def runF (n : Nat) (fzd : Bool) (m : MS) : Fn := fun ds st => match m (startD n ds) st with
  | .nx _ st' => retF fzd st .non st'
  | .rt d st' => retF fzd st d st'
  | .ex x _ st' => .ex x st'
  | _ => .no
section
variable {C : Cf} {X : Cx} {W : WX} {σ : L2.St}
mutual
theorem Dat.trim {K : PySem.W.Frag} {n n' : Nat} {μ μ' : Mu} {H H' : Hp} (m : Mu) (hf : ∀ i, i < n → m i = μ' i) (hL : ∀ a, m.L a → μ'.L a) : ∀ {v0 v : V} {d : D}, Dat K n μ H v0 d → Dat K n' μ' H' v d → Dat K n m H' v d
  | _, _, _, .non, .non => .non
  | _, _, _, .bl _, .bl b => .bl b
  | _, _, _, .int _, .int i => .int i
  | _, _, _, .str _ _, .str h ok => .str h ok
  | _, _, _, .tup _ _ hs0, .tup h hl hs => .tup h hl (DatL.trim m hf hL hs0 hs)
  | _, _, _, .lst _ _ _ hs0, .lst h nl hl hs => .lst h (fun z => nl (hL _ z)) hl (DatL.trim m hf hL hs0 hs)
  | _, _, _, .dct _ _ _ hs0, .dct h nl hl hs => .dct h (fun z => nl (hL _ z)) hl (DatK.trim m hf hL hs0 hs)
  | _, _, _, .frz _ _ hs0, .frz h hl hs => .frz (h.less hL) hl (DatL.trim m hf hL hs0 hs)
  | _, _, .ref i, .ref h0, h => by
    cases h with
    | ref hh =>
      rw [← hf i h0]
      exact .ref h0
theorem DatL.trim {K : PySem.W.Frag} {n n' : Nat} {μ μ' : Mu} {H H' : Hp} (m : Mu) (hf : ∀ i, i < n → m i = μ' i) (hL : ∀ a, m.L a → μ'.L a) : ∀ {v0 v : List V} {d : List D}, DatL K n μ H v0 d → DatL K n' μ' H' v d → DatL K n m H' v d
  | _, _, _, .nil, .nil => .nil
  | _, _, _, .cons h0 t0, .cons h t => .cons (Dat.trim m hf hL h0 h) (DatL.trim m hf hL t0 t)
theorem DatK.trim {K : PySem.W.Frag} {n n' : Nat} {μ μ' : Mu} {H H' : Hp} (m : Mu) (hf : ∀ i, i < n → m i = μ' i) (hL : ∀ a, m.L a → μ'.L a) : ∀ {v0 v : List (Key × V)} {d : List (Key × D)}, DatK K n μ H v0 d → DatK K n' μ' H' v d → DatK K n m H' v d
  | _, _, _, .nil, .nil => .nil
  | _, _, _, .cons h0 t0, .cons h t => .cons (Dat.trim m hf hL h0 h) (DatK.trim m hf hL t0 t)
end
theorem DatF.trim {K : PySem.W.Frag} {n n' : Nat} {μ μ' : Mu} {H H' : Hp} (m : Mu) (hf : ∀ i, i < n → m i = μ' i) (hL : ∀ a, m.L a → μ'.L a) : ∀ {v0 v : List (Str × V)} {d : List (Str × D)}, DatF K n μ H v0 d → DatF K n' μ' H' v d → DatF K n m H' v d
  | _, _, _, .nil, .nil => .nil
  | _, _, _, .cons h0 t0, .cons h t => .cons (Dat.trim m hf hL h0 h) (DatF.trim m hf hL t0 t)
theorem Rel.trim {μ μ' : Mu} {st st' : Store} {H H' : Hp} (R0 : C.Rel μ st H) (R : C.Rel μ' st' H') (E : Ext st.length μ H st'.length μ' H') (ht : st'.take st.length = st) : C.Rel (mcut μ' st.length st'.length) st H' ∧ Ext st.length μ H st.length (mcut μ' st.length st'.length) H' := by
  have hf : ∀ i, i < st.length → (mcut μ' st.length st'.length) i = μ' i := fun _ _ => rfl
  have hL : ∀ a, (mcut μ' st.length st'.length).L a → μ'.L a := fun a z => z.1
  refine ⟨⟨fun i j hi hj e => R.inj i j (Nat.lt_of_lt_of_le hi E.le) (Nat.lt_of_lt_of_le hj E.le) e, fun i o q => ?_, fun i hi => ⟨R.liv i (Nat.lt_of_lt_of_le hi E.le), fun j h1 h2 z => ?_⟩, fun a z => R.trk a z.1⟩,
    ⟨⟨Nat.le_refl _, fun i hi => E.mu i hi, E.keep, fun i h1 h2 => absurd h1 (by omega), fun a z => ⟨E.lv a z, fun j h1 h2 w => ?_⟩, fun a z => E.fr a z.1, E.tups, E.dom⟩, E.all⟩⟩
  · have hi := (List.getElem?_eq_some_iff.mp q).1
    have q' : st'[i]? = some o := by
      rw [← List.getElem?_take_of_lt hi, ht]; exact q
    have O0 := R0.obj i o q
    have O1 := R.obj i o q'
    cases o with
    | lst ds =>
      obtain ⟨v0, _, d0, _⟩ := O0
      obtain ⟨v1, h1, d1, z1⟩ := O1
      exact ⟨v1, h1, DatL.trim _ hf hL d0 d1, z1⟩
    | dct ds =>
      obtain ⟨v0, _, d0, _⟩ := O0
      obtain ⟨v1, h1, d1, z1⟩ := O1
      exact ⟨v1, h1, DatK.trim _ hf hL d0 d1, z1⟩
    | ins c fs =>
      obtain ⟨x0, v0, _, d0, _⟩ := O0
      obtain ⟨x1, v1, h1, d1, z1⟩ := O1
      exact ⟨x1, v1, h1, DatF.trim _ hf hL d0 d1, z1⟩
  · have := R.inj j i h2 (Nat.lt_of_lt_of_le hi E.le) z
    omega
  · have q := E.new j h1 h2
    obtain ⟨u, h, _⟩ := R0.trk a z
    rw [w, h] at q; cases q
theorem retF_ok {fzd : Bool} {μ μ' : Mu} {st st' : Store} {H H' : Hp} {d : D} {v : V} {Q : VK} (R0 : C.Rel μ st H) (E : Ext st.length μ H st'.length μ' H') (R : C.Rel μ' st' H') (hd : Dat C.K st'.length μ' H' v d) (h : Post C Dat W σ Q st.length μ H (retF fzd st d st')) : Q v H' := by
  unfold retF at h
  cases fzd with
  | false => exact h v μ' H' E R hd
  | true =>
    rw [if_pos rfl] at h
    by_cases ht : st'.take st.length = st
    · rw [if_pos ht] at h
      cases q : fz 64 st.length st' d with
      | none => rw [q] at h; exact False.elim h
      | some d' =>
        rw [q] at h
        obtain ⟨R1, E1⟩ := R0.trim R E ht
        exact h v _ H' E1 R1 (fz_ok R E.le 64 v d d' hd q)
    · rw [if_neg ht] at h; exact False.elim h
theorem startD_env {K : PySem.W.Frag} {n : Nat} {μ : Mu} {H : Hp} {N : List Str} {vs : List V} {ds : List D} (h : DatL K n μ H vs ds) : EnvR K n μ H (L2.start N vs) (startD N.length ds) := by
  unfold L2.start startD
  refine ⟨by rw [List.length_append, List.length_append, List.length_map, List.length_map, h.length, List.length_replicate, List.length_replicate], fun i d q => ?_⟩
  have hl := h.length
  by_cases hi : i < ds.length
  · rw [List.getElem?_append_left (by simpa using hi), List.getElem?_map] at q
    rw [List.getElem?_append_left (by simp; omega), List.getElem?_map]
    cases e : ds[i]? with
    | none => rw [e] at q; cases q
    | some d' =>
      rw [e] at q
      cases q
      obtain ⟨v, hv, hd⟩ := h.get e
      exact ⟨v, by rw [hv]; rfl, hd⟩
  · rw [List.getElem?_append_right (by simpa using hi), List.getElem?_replicate] at q
    split at q <;> cases q
/-- a def by its body -/
theorem fn_ok {x qual : Str} {sd : Stmt} {f : Addr} {fd : FuncData} {N ps : List Str} {k : Nat} {m : MS} {fzd : Bool} (F : Fun C.K x qual sd f fd) (S : FnScope N ps (defScope sd))
    (hb : ∀ (X : Cx) (W : WX), Gd C k X W → X.N = N → X.env.scope = defScope sd → X.fn = (fun _ => true) → PSs X (defBody sd) (TDS C W m)) :
    FnOk C.P C.w C.K C.mg C.base (L2.CX C.P C.w) (k + 1) f fd ps (SpOf C ps.length (runF N.length fzd m)) := by
  refine F.okX S (fun vs H Q E h => ?_) (fun cdv A outer s H vs Q E hr h => ?_)
  · obtain ⟨μ, st, ds, _, dl, hk, _⟩ := h
    rw [dl.length]; exact hk
  · obtain ⟨μ, st, ds, R, dl, hk, h⟩ := h
    refine ⟨_, hb _ (fun cls d _ H => E cls d H) ⟨rfl, rfl, rfl, rfl, rfl, rfl, S.nd, hr, takes_of rfl rfl rfl rfl, passes_of rfl⟩ rfl rfl rfl, μ, startD N.length ds, st, R, startD_env dl, ?_⟩
    unfold runF at h
    cases q : m (startD N.length ds) st with
    | no => rw [q] at h; exact h
    | bk ρ st' => rw [q] at h; exact False.elim h
    | ct ρ st' => rw [q] at h; exact False.elim h
    | nx ρ st' => rw [q] at h; exact fun σ' μ' H' e r d => retF_ok R e r .non h
    | rt d st' => rw [q] at h; exact fun v μ' H' e r hd => retF_ok R e r hd h
    | ex x ρ st' => rw [q] at h; exact fun cl dd σ' μ' H' e r d he => h cl dd μ' H' e r he
end
end Mi
/-! Mi12: from the text to functions of data: expressions. -/
namespace Mi
open PySem L2

/-- what is known of the module: constants, defs (place, number of parameters), names that are built-in, which new lists and dicts are to be changed (by line and column) -/
structure Gs where
  con : Str → Option D
  fn : Str → Option (Nat × Nat)
  nob : List Str
  chg : Nat → Nat → Bool
structure Gm where
  N : List Str
  sc : Scope
  fnC : Str → Bool
structure Fits (X : Cx) (Γ : Gm) : Prop where
  N : X.N = Γ.N
  sc : X.env.scope = Γ.sc
  fnC : ∀ x, Γ.fnC x = true → X.fn x = true

def mNo : M D := fun _ _ => .no
def mNoB : M Bool := fun _ _ => .no
def mNoL : M (List D) := fun _ _ => .no
def ixOf : List Str → Str → Option Nat
  | [], _ => none
  | y :: r, x => if y = x then some 0 else (ixOf r x).map (· + 1)
theorem ixOf_get : ∀ {N : List Str} {x : Str} {i : Nat}, ixOf N x = some i → N[i]? = some x
  | [], _, _, h => by cases h
  | y :: r, x, i, h => by
    unfold ixOf at h
    split at h
    · rename_i e
      cases h
      subst e
      rfl
    · obtain ⟨j, h1, rfl⟩ := map_some h
      simpa using ixOf_get h1
def plainN (x : Str) : Bool := !(x == ("__debug__" : Str)) && !(x == ("__classdict__" : Str)) && !(x == ("__name__" : Str))
def visB (sc : Scope) (x : Str) : Bool := match sc.names.lookup x with
  | some .local => true
  | some .cell => true
  | some .free => true
  | _ => false
def glB (sc : Scope) (x : Str) : Bool := match sc.names.lookup x with
  | some .globalImplicit => true
  | _ => false
def locB (Γ : Gm) (x : Str) : Bool := match Γ.sc.names.lookup x with
  | some .local => true
  | some .cell => Γ.fnC x
  | _ => false
def slotOf (Γ : Gm) (x : Str) : Option Nat := if visB Γ.sc x = true ∧ plainN x = true then ixOf Γ.N x else none
def noStar : Expr → Bool
  | .Starred _ _ => false
  | _ => true
def strFine (s : Str) : Bool := decide (s.length ≤ sizeLine) && PyData.strOk s
def cArgs (f : Expr → M D) : List Expr → M (List D)
  | [] => mNil
  | e :: r => mCons (f e) (cArgs f r)
def cBin (m : Bool) : Operator → M D → M D → M D
  | .Add, a, b => mBin (dAdd m) a b
  | .Sub, a, b => mBin dSub a b
  | .Mult, a, b => mBin (dMul m) a b
  | .FloorDiv, a, b => mBin dDiv a b
  | .Mod, a, b => mBin dMod a b
  | .Pow, a, b => mBin dPow a b
  | .BitAnd, a, b => mBin dAnd a b
  | .RShift, a, b => mBin dShr a b
  | _, _, _ => mNo
def cmpF : CmpOp → Option (D → D → Store → O D)
  | .Eq => some (dEq false)
  | .NotEq => some (dEq true)
  | .Lt => some dLt
  | .LtE => some dLe
  | .Gt => some dGt
  | .GtE => some dGe
  | .Is => some (dIs false)
  | .IsNot => some (dIs true)
  | .In => some (dIn false)
  | .NotIn => some (dIn true)
def plainIx : Expr → Bool
  | .Slice _ _ _ _ => false
  | _ => true
def baseOk : Expr → Bool
  | .Call (.Name _ _) [] [] _ => false
  | _ => true
def plainT : Expr → Bool
  | .UnaryOp .Not _ _ => false
  | .BoolOp _ _ _ => false
  | .IfExp _ _ _ _ => false
  | .Compare _ _ _ _ => false
  | _ => true
/-! ### isinstance -/
def tyOfD (d : D) (st : Store) : Option String := match d with
  | .non => some "NoneType"
  | .bl _ => some "bool"
  | .int _ => some "int"
  | .str _ => some "str"
  | .tup _ => some "tuple"
  | .lst _ => some "list"
  | .frz _ => some "list"
  | .dct _ => some "dict"
  | .ref i => match st[i]? with
    | some (.lst _) => some "list"
    | some (.dct _) => some "dict"
    | _ => none
def subT (t T : String) : Bool := t == T || (t == "bool" && T == "int")
def mIsi (Ts : List String) (a : M D) : M D := fun ρ st => (a ρ st).bind fun d st1 => match tyOfD d st1 with
  | some t => .ok (.bl (Ts.any (subT t))) st1
  | none => .no
def tyName (x : Str) : Option String := if x = "int" then some "int" else if x = "bool" then some "bool" else if x = "str" then some "str" else if x = "list" then some "list" else if x = "tuple" then some "tuple" else if x = "dict" then some "dict" else none
def cIsi (G : Gs) (Γ : Gm) (a : M D) : Expr → M D
  | .Name T _ => match tyName T with
    | some t => if glB Γ.sc T = true ∧ T ∈ G.nob then mIsi [t] a else mNo
    | none => mNo
  | .Tuple [.Name T _, .Name T2 _] _ _ => match tyName T, tyName T2 with
    | some t, some t2 => if glB Γ.sc T = true ∧ T ∈ G.nob ∧ glB Γ.sc T2 = true ∧ T2 ∈ G.nob then mIsi [t, t2] a else mNo
    | _, _ => mNo
  | _ => mNo
/-! ### calls of built-ins -/
def cBlt (m : Bool) (x : Str) (a : M (List D)) : M D :=
  if x = "len" then mApp dLen a else if x = "list" then mApp (dList m) a else if x = "tuple" then mApp dTuple a else if x = "int" then mApp dInt a else if x = "str" then mApp dStr a
  else if x = "sum" then mApp dSum a else if x = "all" then mApp (dAllAny true) a else if x = "any" then mApp (dAllAny false) a else mNo
def cMeth (m : Bool) (x : Str) (o : M D) (args : List Expr) (a : M (List D)) : M D := match args with
  | [] => if x = "clear" then mMeth "list" dClear o mNil else mNo
  | [_] => if x = "append" then mMeth "list" dAppend o a else if x = "extend" then mMeth "list" dExtend o a else if x = "split" then mMeth "str" (dSplit m) o a else if x = "join" then mMeth "str" dJoin o a else mNo
  | _ => mNo
abbrev Rec := Gm → Expr → M D × M Bool
/-! ### a text and a replaced one: 'a' + o.replace('c', 'z') -/
def replC (c : Nat) (z : List Nat) (l : List Nat) : List Nat := l.flatMap fun a => if a = c then z else [a]
def dRepl (c : Nat) (z : Str) (d : D) (st : Store) : O D := match d with
  | .str x => if x.length + (x.length + 1) * z.length ≤ 16777216 then .ok (.str ⟨(replC c z.cps.toList x.cps.toList).toArray⟩) st else .no
  | _ => .no
structure ReplP where
  s : Str
  o : Expr
  c : Nat
  z : Str
def replPat (op : Operator) (a b : Expr) : Option ReplP := match op, a, b with
  | .Add, .Constant (.str s) _ _, .Call (.Attribute o x apos) [.Constant (.str y) _ _, .Constant (.str z) _ _] [] pos => match y.cps.toList with
    | [c] => if x = "replace" ∧ (y == z) = false ∧ strFine s = true ∧ strFine z = true ∧ baseOk o = true ∧ (apos.endLine == pos.line) = true then some ⟨s, o, c, z⟩ else none
    | _ => none
  | _, _, _ => none
/-! ### targets, what is walked -/
def nameSlot (Γ : Gm) : Expr → Option Nat
  | .Name x _ => if locB Γ x = true then ixOf Γ.N x else none
  | _ => none
def namesSlots (Γ : Gm) : List Expr → Option (List Nat)
  | [] => some []
  | e :: r => match nameSlot Γ e, namesSlots Γ r with
    | some i, some is => some (i :: is)
    | _, _ => none
def tgtOf (Γ : Gm) : Expr → Option Tgt
  | .Name x p => (nameSlot Γ (.Name x p)).map .one
  | .Tuple es _ _ => (namesSlots Γ es).map .many
  | _ => none
def isTup : Expr → Bool
  | .Tuple _ _ _ => true
  | _ => false
def isSet : Expr → Bool
  | .Set _ _ _ => true
  | _ => false
def cIter (G : Gs) (rec : Rec) (Γ : Gm) (tg : Expr) (e : Expr) : M (List D) := match e with
  | .Call (.Name x _) args [] _ =>
    if glB Γ.sc x = true ∧ x ∈ G.nob ∧ args.all noStar = true then
      (if x = "range" then (match args with
        | [a] => mRange1 (rec Γ a).1
        | [a, b] => mRange2 (rec Γ a).1 (rec Γ b).1
        | _ => mNoL)
      else if x = "enumerate" then (match args with
        | [a] => if isTup tg = true then mEnum (rec Γ a).1 else mNoL
        | _ => mNoL)
      else if x = "zip" then (match args with
        | [a, b] => if isTup tg = true then mZip (rec Γ a).1 (rec Γ b).1 else mNoL
        | _ => mNoL)
      else mItems (rec Γ e).1)
    else mItems (rec Γ e).1
  | e => if isSet e = true then mNoL else mItems (rec Γ e).1
def ownOf (N : List Str) (scope : Scope) : List (Str × Nat) := scope.names.filterMap fun y => match y.2 with
  | .local => (ixOf N y.1).map fun i => (y.1, i)
  | .cell => (ixOf N y.1).map fun i => (y.1, i)
  | _ => none
def blkG (Γ : Gm) (scope : Scope) : Gm := ⟨Γ.N, relS scope Γ.sc, fun x => scope.names.lookup x == some .cell⟩
def mYes : M Bool := fun _ st => .ok true st
def cIfs (rec : Rec) (Γ : Gm) : List Expr → M Bool
  | [] => mYes
  | [c] => (rec Γ c).2
  | _ => mNoB
def cComp (G : Gs) (rec : Rec) (Γ : Gm) (elt tg iter : Expr) (ifs : List Expr) (scope : Scope) (pos : Pos) : M D :=
  match tgtOf (blkG Γ scope) tg with
  | some t => if blkC Γ.N Γ.sc scope (ownOf Γ.N scope) = true ∧ t.slots.all (fun i => decide (i ∈ (ownOf Γ.N scope).map (·.2))) = true ∧ isSet iter = false then
      mLc (G.chg pos.line pos.col) (cIter G rec Γ tg iter) t ((ownOf Γ.N scope).map (·.2)) (cIfs rec (blkG Γ scope) ifs) (rec (blkG Γ scope) elt).1 else mNo
  | none => mNo
def cPart (rec : Rec) (Γ : Gm) : Option Expr → M (Option Int)
  | none => mNoPart
  | some e => mPart (rec Γ e).1
def cAnds (rec : Rec) (Γ : Gm) : List Expr → M D
  | [] => mNo
  | [a] => (rec Γ a).1
  | a :: r => mAndV (rec Γ a).1 (cAnds rec Γ r)
def cOrs (rec : Rec) (Γ : Gm) : List Expr → M D
  | [] => mNo
  | [a] => (rec Γ a).1
  | a :: r => mOrV (rec Γ a).1 (cOrs rec Γ r)
def cAndsT (rec : Rec) (Γ : Gm) : List Expr → M Bool
  | [] => mNoB
  | [a] => (rec Γ a).2
  | a :: r => mAndT (rec Γ a).2 (cAndsT rec Γ r)
def cOrsT (rec : Rec) (Γ : Gm) : List Expr → M Bool
  | [] => mNoB
  | [a] => (rec Γ a).2
  | a :: r => mOrT (rec Γ a).2 (cOrsT rec Γ r)
def cCall (G : Gs) (call : Nat → Fn) (rec : Rec) (Γ : Gm) (x : Str) (args : List Expr) (pos : Pos) : M D :=
  if glB Γ.sc x = true ∧ plainN x = true ∧ args.all noStar = true then (match G.fn x with
    | some (i, k) => mCall k (call i) (cArgs (fun e => (rec Γ e).1) args)
    | none => if x ∈ G.nob then (match args with
        | [a, T] => if x = "isinstance" then cIsi G Γ (rec Γ a).1 T else cBlt (G.chg pos.line pos.col) x (cArgs (fun e => (rec Γ e).1) args)
        | [] => mNo
        | _ => cBlt (G.chg pos.line pos.col) x (cArgs (fun e => (rec Γ e).1) args)) else mNo) else mNo
def cVal (G : Gs) (call : Nat → Fn) (rec : Rec) (Γ : Gm) : Expr → M D
  | .Constant (.int i) _ _ => mC (.int i)
  | .Constant (.str s) _ _ => if strFine s = true then mC (.str s) else mNo
  | .Constant (.bool b) _ _ => mC (.bl b)
  | .Constant .none _ _ => mC .non
  | .Name x _ => match slotOf Γ x with
    | some i => mVar i
    | none => if glB Γ.sc x = true ∧ plainN x = true then (match G.con x with
      | some d => mC d
      | none => mNo) else mNo
  | .Tuple es _ _ => if es.all noStar = true then mTup (cArgs (fun e => (rec Γ e).1) es) else mNo
  | .List es pos => if es.all noStar = true then mLst (G.chg pos.line pos.col) (cArgs (fun e => (rec Γ e).1) es) else mNo
  | .Dict [] [] pos => fun _ st => mkD (G.chg pos.line pos.col) [] st
  | .BinOp a op b pos => match replPat op a b with
    | some p => mBin (dAdd (G.chg pos.line pos.col)) (mC (.str p.s)) (mUn (dRepl p.c p.z) (rec Γ p.o).1)
    | none => cBin (G.chg pos.line pos.col) op (rec Γ a).1 (rec Γ b).1
  | .UnaryOp .Not a _ => mNotV (rec Γ a).1
  | .UnaryOp .USub a _ => mUn dNeg (rec Γ a).1
  | .BoolOp .And es _ => cAnds rec Γ es
  | .BoolOp .Or es _ => cOrs rec Γ es
  | .Compare a [op] [b] _ => match cmpF op with
    | some f => if behindInMarks op b = false then mBin f (rec Γ a).1 (rec Γ b).1 else mNo
    | none => mNo
  | .Compare a [op, op2] [b, c] _ => match cmpF op, cmpF op2 with
    | some f, some g => if lastMarks [op, op2] [b, c] = false then mChain f g (rec Γ a).1 (rec Γ b).1 (rec Γ c).1 else mNo
    | _, _ => mNo
  | .IfExp c a b _ => mIfE (rec Γ c).2 (rec Γ a).1 (rec Γ b).1
  | .Subscript a (.Slice lo hi none _) pos => mSl (G.chg pos.line pos.col) (rec Γ a).1 (cPart rec Γ lo) (cPart rec Γ hi)
  | .Subscript a b _ => if plainIx b = true then mBin dIx (rec Γ a).1 (rec Γ b).1 else mNo
  | .Call (.Name x _) args [] pos => cCall G call rec Γ x args pos
  | .Call (.Attribute o x apos) args [] pos => if args.all noStar = true ∧ baseOk o = true ∧ (apos.endLine == pos.line) = true then cMeth (G.chg pos.line pos.col) x (rec Γ o).1 args (cArgs (fun e => (rec Γ e).1) args) else mNo
  | .ListComp elt [⟨tg, iter, ifs, 0⟩] scope pos => cComp G rec Γ elt tg iter ifs scope pos
  | _ => mNo
def mTest (a : M D) : M Bool := fun ρ st => (a ρ st).bind fun d st1 => match d with
  | .bl b => .ok b st1
  | _ => .no
def cTst (G : Gs) (call : Nat → Fn) (rec : Rec) (Γ : Gm) (e : Expr) : M Bool := match e with
  | .UnaryOp .Not a _ => mNotT (rec Γ a).2
  | .BoolOp .And es _ => cAndsT rec Γ es
  | .BoolOp .Or es _ => cOrsT rec Γ es
  | .Compare a [op] [b] pos => mTest (cVal G call rec Γ (.Compare a [op] [b] pos))
  | .Compare a [op, op2] [b, c] pos => mTest (cVal G call rec Γ (.Compare a [op, op2] [b, c] pos))
  | e => if plainT e = true then mTru (cVal G call rec Γ e) else mNoB
def cET (G : Gs) (call : Nat → Fn) : Nat → Rec
  | 0 => fun _ _ => (mNo, mNoB)
  | n + 1 => fun Γ e => (cVal G call (cET G call n) Γ e, cTst G call (cET G call n) Γ e)
end Mi
/-! Mi13: the functions of data are kept by the text: expressions. -/
namespace Mi
open PySem L2

structure GOk (C : Cf) (G : Gs) (call : Nat → Fn) (k : Nat) : Prop where
  con : ∀ x d, G.con x = some d → ∃ u v, C.mg x = some u ∧ RelV v u ∧ ∀ n μ H, Dat C.K n μ H v d
  fn : ∀ x i m, G.fn x = some (i, m) → ∃ f fd ps, C.mg x = some (.ref f) ∧ PySem.W.keepIn C.K (.ref f) = true ∧ Binds C.K fd ps [] ∧ ps.length = m ∧ FnOk C.P C.w C.K C.mg C.base (L2.CX C.P C.w) k f fd ps (SpOf C m (call i))
  nob : ∀ x, x ∈ G.nob → C.mg x = none
/-- what is to be shown of a way to read -/
def RecOk (C : Cf) (G : Gs) (call : Nat → Fn) (k : Nat) (rec : Rec) : Prop := ∀ (Γ : Gm) (X : Cx) (W : WX) (e : Expr), Gd C k X W → Fits X Γ → PE X e (TD C W (rec Γ e).1) ∧ PT X e (TDT C W (rec Γ e).2)
section
variable {C : Cf} {G : Gs} {call : Nat → Fn} {k : Nat} {rec : Rec} {Γ : Gm} {X : Cx} {W : WX}
theorem Gd.u65 (g : Gd C k X W) : X.A.units + 65 < cLine := by have := g.room.un; omega
theorem Gd.u64 (g : Gd C k X W) : X.A.units + 64 < cLine := by have := g.room.un; omega
theorem pa_noL {es : List Expr} : PA X es (TDA C W mNoL) := ⟨fun pos pins s σ H Q I q => by
  obtain ⟨_, _, _, _, _, h⟩ := q
  exact h.elim⟩
theorem star_cons {e : Expr} {es : List Expr} {env : Env} (h : noStar e = true) : starEach (e :: es) env = (false, eval e env) :: starEach es env := by
  cases e <;> first | rfl | cases h
theorem star_any {pos : Pos} {env : Env} : ∀ {es : List Expr}, es.all noStar = true → (backTo pos (starEach es env)).any (·.1) = false
  | [], _ => rfl
  | e :: r, h => by
    rw [List.all_cons, Bool.and_eq_true] at h
    rw [star_cons h.1]
    show (false || (backTo pos (starEach r env)).any (·.1)) = false
    rw [star_any h.2]; rfl
theorem star_all {pos : Pos} {env : Env} : ∀ {es : List Expr}, es.all noStar = true → (backTo pos (starEach es env)).all (fun x => !x.1) = true
  | [], _ => rfl
  | e :: r, h => by
    rw [List.all_cons, Bool.and_eq_true] at h
    rw [star_cons h.1]
    show (true && (backTo pos (starEach r env)).all (fun x => !x.1)) = true
    rw [star_all h.2]; rfl
theorem gl_of (f : Fits X Γ) {x : Str} (h : glB Γ.sc x = true) : L2.Gl X x := by
  unfold glB at h
  show X.env.scope.names.lookup x = _
  rw [f.sc]
  split at h
  · assumption
  · cases h
theorem plain_debug {x : Str} (h : plainN x = true) : (x == ("__debug__" : Str)) = false := by
  unfold plainN at h
  simp only [Bool.and_eq_true, Bool.not_eq_true'] at h
  exact h.1.1
theorem plain_cd {x : Str} (h : plainN x = true) : (x == ("__classdict__" : Str)) = false := by
  unfold plainN at h
  simp only [Bool.and_eq_true, Bool.not_eq_true'] at h
  exact h.1.2
theorem vis_of (f : Fits X Γ) {x : Str} (h : visB Γ.sc x = true) : Vis X.env.scope x := by
  unfold visB at h
  unfold Vis
  rw [f.sc]
  split at h
  · exact .inl (by assumption)
  · exact .inr (.inl (by assumption))
  · exact .inr (.inr (by assumption))
  · cases h
theorem pa_args (ih : RecOk C G call k rec) (g : Gd C k X W) (f : Fits X Γ) : ∀ {es : List Expr}, es.all noStar = true → PA X es (TDA C W (cArgs (fun e => (rec Γ e).1) es))
  | [], _ => pa_nilD
  | e :: r, h => by
    rw [List.all_cons, Bool.and_eq_true] at h
    exact pa_consD (ih Γ X W e g f).1 (pa_args ih g f h.2) (star_cons h.1)
theorem pe_bin (g : Gd C k X W) {m : Bool} {op : Operator} {a b : Expr} {pos : Pos} {ma mb : M D} (ha : PE X a (TD C W ma)) (hb : PE X b (TD C W mb)) : PE X (.BinOp a op b pos) (TD C W (cBin m op ma mb)) := by
  cases op with
  | Add => exact pe_opD (snd_add g.K m) ha hb
  | Sub => exact pe_opD snd_sub ha hb
  | Mult => exact pe_opD (snd_mul m) ha hb
  | FloorDiv => exact pe_opD snd_div ha hb
  | Mod => exact pe_opD snd_mod ha hb
  | Pow => exact pe_opD snd_pow ha hb
  | BitAnd => exact pe_opD snd_and ha hb
  | RShift => exact pe_opD snd_shr ha hb
  | _ => exact pe_no
theorem cmp_snd (g : Gd C k X W) {op : CmpOp} {f : D → D → Store → O D} (h : cmpF op = some f) : Snd2 C (fun x y H Q => ∃ r, OpR X (compareOp op) r ∧ r x y H Q) f := by
  cases op with
  | Eq => cases h; exact snd_eq g.K g.u64
  | NotEq => cases h; exact snd_ne g.K g.u64
  | Lt => cases h; exact snd_lt
  | LtE => cases h; exact snd_le
  | Gt => cases h; exact snd_gt
  | GtE => cases h; exact snd_ge
  | Is => cases h; exact snd_is
  | IsNot => cases h; exact snd_isnot
  | In => cases h; exact snd_in g.K g.u65 false
  | NotIn => cases h; exact snd_in g.K g.u65 true
theorem pe_ands (ih : RecOk C G call k rec) (g : Gd C k X W) (f : Fits X Γ) {pos : Pos} : ∀ {es : List Expr}, PE X (.BoolOp .And es pos) (TD C W (cAnds rec Γ es))
  | [] => pe_no
  | [a] => pe_one (ih Γ X W a g f).1
  | a :: b :: r => (pe_andT (ih Γ X W a g f).1 (pe_ands ih g f (es := b :: r))).imp fun _ _ _ h => td_andV g.K h
theorem pe_ors (ih : RecOk C G call k rec) (g : Gd C k X W) (f : Fits X Γ) {pos : Pos} : ∀ {es : List Expr}, PE X (.BoolOp .Or es pos) (TD C W (cOrs rec Γ es))
  | [] => pe_no
  | [a] => pe_one (ih Γ X W a g f).1
  | a :: b :: r => (pe_orT (ih Γ X W a g f).1 (pe_ors ih g f (es := b :: r))).imp fun _ _ _ h => td_orV g.K h
theorem pw_noB {e : Expr} : PW X e (TDT C W mNoB) := ⟨fun whole pins s σ H Q I q => by
  obtain ⟨_, _, _, _, _, h⟩ := q
  exact h.elim⟩
theorem pw_ands (ih : RecOk C G call k rec) (g : Gd C k X W) (f : Fits X Γ) {pos : Pos} : ∀ {es : List Expr}, PW X (.BoolOp .And es pos) (TDT C W (cAndsT rec Γ es))
  | [] => pw_noB
  | [a] => pw_and1 (ih Γ X W a g f).2
  | a :: b :: r => (pw_and (ih Γ X W a g f).2 (pw_ands ih g f (es := b :: r))).imp fun _ _ _ h => td_and h
theorem pw_ors (ih : RecOk C G call k rec) (g : Gd C k X W) (f : Fits X Γ) {pos : Pos} : ∀ {es : List Expr}, PW X (.BoolOp .Or es pos) (TDT C W (cOrsT rec Γ es))
  | [] => pw_noB
  | [a] => pw_or1 (ih Γ X W a g f).2
  | a :: b :: r => (pw_or (ih Γ X W a g f).2 (pw_ors ih g f (es := b :: r))).imp fun _ _ _ h => td_or h
theorem plainIx_of {b : Expr} (h : plainIx b = true) : PlainIx b := by
  intro o i
  cases b <;> first | rfl | cases h
theorem base_of {o : Expr} {x : Str} {env : Env} (h : baseOk o = true) : attributeBase o x env (eval o env) = eval o env := by
  cases o with
  | Call fn args kw pos =>
    cases fn with
    | Name id p =>
      cases args with
      | nil =>
        cases kw with
        | nil => cases h
        | cons _ _ => rfl
      | cons _ _ => rfl
    | _ => rfl
  | _ => rfl
theorem plainT_of {e : Expr} {env : Env} (h : plainT e = true) : ∀ whole, isTrue e env whole = (do let v ← whole; standAt e.pos; holding [v] (truthy v)) := by
  intro whole
  cases e with
  | UnaryOp op a pos => cases op <;> first | rfl | cases h
  | BoolOp _ _ _ => cases h
  | IfExp _ _ _ _ => cases h
  | Compare _ _ _ _ => cases h
  | _ => rfl
/-! ### isinstance -/
theorem kits : ∀ t ∈ ["NoneType", "bool", "int", "str", "tuple", "list", "dict"], ∀ T ∈ ["int", "bool", "str", "list", "tuple", "dict"], kitB t T = some (subT t T) := by decide +kernel
theorem tyOf_ok {μ : Mu} {st : Store} {H : Hp} (R : C.Rel μ st H) {v : V} {d : D} {t : String} (h : Dat C.K st.length μ H v d) (e : tyOfD d st = some t) : TyX C.K H v (.type t) ∧ t ∈ ["NoneType", "bool", "int", "str", "tuple", "list", "dict"] := by
  cases h with
  | non => cases e; exact ⟨.base .non, by decide⟩
  | bl b => cases e; exact ⟨.base (.bl b), by decide⟩
  | int i => cases e; exact ⟨.base (.int i), by decide⟩
  | str hl ok => cases e; exact ⟨.base (.str _), by decide⟩
  | tup h hl hs =>
    cases e
    refine ⟨?_, by decide⟩
    rcases h with (h | ⟨o, h⟩) | ⟨o, its, n, hk, hc, _⟩
    · exact .base (.tup h)
    · exact .fTuple h
    · exact .kTuple hk hc
  | lst h nl hl hs => cases e; exact ⟨.base (.lst h), by decide⟩
  | frz h hl hs =>
    cases e
    refine ⟨?_, by decide⟩
    rcases h with ⟨⟨o, h⟩, _⟩ | ⟨o, its, n, hk, hc, _⟩
    · exact .base (.frz h)
    · exact .kList hk hc
  | dct h nl hl hs => cases e; exact ⟨.base (.dK h), by decide⟩
  | @ref i hi =>
    have e' : (match st[i]? with | some (.lst _) => some "list" | some (.dct _) => some "dict" | _ => none) = some t := e
    cases q : st[i]? with
    | none => rw [q] at e'; cases e'
    | some o =>
      rw [q] at e'
      have O := R.obj i o q
      cases o with
      | lst xs => cases e'; obtain ⟨vs, h1, _⟩ := O; exact ⟨.base (.lst h1), by decide⟩
      | dct xs => cases e'; obtain ⟨vs, h1, _⟩ := O; exact ⟨.base (.dK h1), by decide⟩
      | ins _ _ => cases e'
theorem tyName_ok {x : Str} {t : String} (h : tyName x = some t) : bootBuiltins x = some (.type t) ∧ x ≠ "__name__" ∧ (x == ("__debug__" : Str)) = false ∧ t ∈ ["int", "bool", "str", "list", "tuple", "dict"] := by
  unfold tyName at h
  split at h
  · rename_i e; cases h; subst e; exact ⟨PyProof.Rows.boot_int, by decide +kernel, by decide +kernel, by decide⟩
  split at h
  · rename_i e; cases h; subst e; exact ⟨PyProof.Rows.boot_bool, by decide +kernel, by decide +kernel, by decide⟩
  split at h
  · rename_i e; cases h; subst e; exact ⟨PyProof.Rows.boot_str, by decide +kernel, by decide +kernel, by decide⟩
  split at h
  · rename_i e; cases h; subst e; exact ⟨PyProof.Rows.boot_list, by decide +kernel, by decide +kernel, by decide⟩
  split at h
  · rename_i e; cases h; subst e; exact ⟨PyProof.Rows.boot_tuple, by decide +kernel, by decide +kernel, by decide⟩
  split at h
  · rename_i e; cases h; subst e; exact ⟨PyProof.Rows.boot_dict, by decide +kernel, by decide +kernel, by decide⟩
  · cases h
theorem pe_isi (g : Gd C k X W) (f : Fits X Γ) (go : GOk C G call k) {a T : Expr} {p pos : Pos} {ma : M D} (ha : PE X a (TD C W ma)) (hg : L2.Gl X "isinstance") (hm : X.mg "isinstance" = none) (hs : noStar a = true) :
    PE X (.Call (.Name "isinstance" p) [a, T] [] pos) (TD C W (cIsi G Γ ma T)) := by
  unfold cIsi
  split
  · rename_i T _
    split
    · rename_i t ht
      obtain ⟨h1, h2, h3, h4⟩ := tyName_ok ht
      split
      · rename_i hc
        have hb : ∀ q, PE X (.Name T q) (tC (.ty t)) := fun q => pe_bltn (gl_of f hc.1) (by rw [g.mg]; exact go.nob T hc.2) h1 rfl h2 h3
        refine (pe_callB call_isi hg hm PyProof.Rows.boot_isinstance (pa_cons ha (pa_cons (hb _) pa_nil rfl) (star_cons hs)) (by decide +kernel) (by decide +kernel) (star_cons hs) rfl).imp fun σ H Q h => ?_
        obtain ⟨μ, ρ, st, R, E, h⟩ := h
        refine ⟨μ, ρ, st, R, E, (Post.bind (R := Dat) h).imp fun v H1 ⟨d, st1, μ1, _, e1, R1, d1, h1'⟩ => ?_⟩
        cases q : tyOfD d st1 with
        | none => simp only [q] at h1'; exact False.elim h1'
        | some t' =>
          simp only [q] at h1'
          obtain ⟨ty, hm'⟩ := tyOf_ok R1 d1 q
          refine ⟨v, .ty t, .type t', .type t, subT t' t, rfl, .ty t, by rw [g.K]; exact ty, kit_ty (kits t' hm' t h4), ?_⟩
          have := Post.now R1 h1' (.bl _)
          simpa using this
      · exact pe_no
    · exact pe_no
  · rename_i T _ T2 _ _ _
    split
    · rename_i t t2 ht ht2
      obtain ⟨h1, h2, h3, h4⟩ := tyName_ok ht
      obtain ⟨i1, i2, i3, i4⟩ := tyName_ok ht2
      split
      · rename_i hc
        have hb : ∀ q, PE X (.Name T q) (tC (.ty t)) := fun q => pe_bltn (gl_of f hc.1) (by rw [g.mg]; exact go.nob T hc.2.1) h1 rfl h2 h3
        have hb2 : ∀ q, PE X (.Name T2 q) (tC (.ty t2)) := fun q => pe_bltn (gl_of f hc.2.2.1) (by rw [g.mg]; exact go.nob T2 hc.2.2.2) i1 rfl i2 i3
        refine (pe_callB call_isiT hg hm PyProof.Rows.boot_isinstance (pa_cons ha (pa_cons (pe_tup (pa_cons (hb _) (pa_cons (hb2 _) pa_nil rfl) rfl)) pa_nil rfl) (star_cons hs)) (by decide +kernel) (by decide +kernel) (star_cons hs) rfl).imp fun σ H Q h => ?_
        obtain ⟨μ, ρ, st, R, E, h⟩ := h
        refine ⟨μ, ρ, st, R, E, (Post.bind (R := Dat) h).imp fun v H1 ⟨d, st1, μ1, _, e1, R1, d1, h1'⟩ => ?_⟩
        cases q : tyOfD d st1 with
        | none => simp only [q] at h1'; exact False.elim h1'
        | some t' =>
          simp only [q] at h1'
          refine ⟨by show 2 ≤ sizeLine; decide, fun tp htp => ?_⟩
          obtain ⟨E2, nl⟩ := R1.fresh (o := .tup [.ty t, .ty t2]) htp
          have R2 := R1.upd (o := .tup [.ty t, .ty t2]) htp
          obtain ⟨ty, hm'⟩ := tyOf_ok R2 (d1.ext E2) q
          refine ⟨v, tp, [.ty t, .ty t2], .type t', [.type t, .type t2], subT t' t || subT t' t2, rfl, upd_same, .cons (.ty t) (.cons (.ty t2) .nil), by rw [g.K]; exact ty, ?_, ?_⟩
          · refine kitAny_cons (kit_ty (kits t' hm' t h4)) (fun e1 => ?_) (fun e1 => by rw [e1]; rfl)
            rw [e1, Bool.false_or]
            refine kitAny_cons (kit_ty (kits t' hm' t2 i4)) (fun e2 => ?_) (fun e2 => e2)
            rw [e2]; rfl
          · have := h1' (.bl ([t, t2].any (subT t'))) μ1 _ E2 R2 (.bl _)
            simpa using this
      · exact pe_no
    · exact pe_no
  · exact pe_no
end
end Mi
/-! Mi14: .. calls, comprehensions, all expressions. -/
namespace Mi
open PySem L2

section
variable {C : Cf} {G : Gs} {call : Nat → Fn} {k : Nat} {rec : Rec} {Γ : Gm} {X : Cx} {W : WX}
theorem ofString_ok (s : String) : PyData.strOk (Str.ofString s) = true := by
  have e : (Str.ofString s).cps.toList = s.toList.map Char.toNat := PyProof.Rows.signs_ofString s
  unfold PyData.strOk
  rw [← Array.all_toList, e, List.all_eq_true]
  intro c hc
  obtain ⟨ch, _, rfl⟩ := List.mem_map.mp hc
  have h1 := ch.valid
  have h2 : ch.toNat < 0x110000 := by
    show ch.val.toNat < _
    rcases h1 with h1 | ⟨_, h1⟩
    · exact Nat.lt_trans h1 (by decide)
    · exact h1
  exact decide_eq_true h2
theorem snd_str : SndL C (fun xs H Q => ∃ r, CallR X (.type "str") r ∧ r xs H Q) dStr := by
  intro μ st H xs ds W σ Q R hd h
  cases hd with
  | nil => exact False.elim h
  | @cons v vs d ds h1 h2 =>
    cases h2 with
    | cons _ _ => cases d <;> exact False.elim h
    | nil =>
      cases h1 with
      | int i =>
        have h' : Post C Dat W σ Q st.length μ H (if 0 ≤ i ∧ i < 1000000000 then .ok (.str (Str.ofString (toString i))) st else .no) := h
        split at h'
        · rename_i hc
          have hl : i.natAbs.log2 < 1920 := by
            have : i.natAbs < 2 ^ 30 := by omega
            by_cases h0 : i.natAbs = 0
            · rw [h0]; decide
            · have := (Nat.log2_lt h0).mpr this
              omega
          exact ⟨_, call_str_int, i, rfl, hl, Post.now R h' (.str (PySem.int_text_fits hl) (ofString_ok _))⟩
        · exact False.elim h'
      | _ => exact False.elim h
theorem pe_bltD {x : Str} {id : String} {p pos : Pos} {e : Expr} {es : List Expr} {f : List D → Store → O D} {ma : M (List D)} (hf : SndL C (fun xs H Q => ∃ r, CallR X (.builtin id) r ∧ r xs H Q) f) (hg : L2.Gl X x) (hm : X.mg x = none) (hv : bootBuiltins x = some (.builtin id)) (hn : x ≠ "__name__") (hd : (x == ("__debug__" : Str)) = false)
    (ha : PA X (e :: es) (TDA C W ma)) (hs : (e :: es).all noStar = true) : PE X (.Call (.Name x p) (e :: es) [] pos) (TD C W (mApp f ma)) := by
  rw [List.all_cons, Bool.and_eq_true] at hs
  exact (pe_callB CallR.any hg hm hv ha hn hd (star_cons hs.1) (star_any hs.2)).imp fun _ _ _ h => td_app hf h
theorem pe_tyD {x : Str} {T : String} {p pos : Pos} {e : Expr} {es : List Expr} {f : List D → Store → O D} {ma : M (List D)} (hf : SndL C (fun xs H Q => ∃ r, CallR X (.type T) r ∧ r xs H Q) f) (hg : L2.Gl X x) (hm : X.mg x = none) (hv : bootBuiltins x = some (.type T)) (hn : x ≠ "__name__") (hd : (x == ("__debug__" : Str)) = false)
    (ha : PA X (e :: es) (TDA C W ma)) (hs : (e :: es).all noStar = true) : PE X (.Call (.Name x p) (e :: es) [] pos) (TD C W (mApp f ma)) := by
  rw [List.all_cons, Bool.and_eq_true] at hs
  exact (pe_callTy CallR.any hg hm hv ha hn hd (star_cons hs.1) (star_any hs.2)).imp fun _ _ _ h => td_app hf h
theorem pe_blt (g : Gd C k X W) {m : Bool} {x : Str} {p pos : Pos} {e : Expr} {es : List Expr} {ma : M (List D)} (hg : L2.Gl X x) (hm : X.mg x = none) (ha : PA X (e :: es) (TDA C W ma)) (hs : (e :: es).all noStar = true) : PE X (.Call (.Name x p) (e :: es) [] pos) (TD C W (cBlt m x ma)) := by
  unfold cBlt
  split
  · rename_i q; subst q; exact pe_bltD (snd_len g.K) hg hm PySem.boot_len (by decide +kernel) (by decide +kernel) ha hs
  split
  · rename_i q; subst q; exact pe_tyD (snd_list g.K m) hg hm PyProof.Rows.boot_list (by decide +kernel) (by decide +kernel) ha hs
  split
  · rename_i q; subst q; exact pe_tyD (snd_tuple g.K) hg hm PyProof.Rows.boot_tuple (by decide +kernel) (by decide +kernel) ha hs
  split
  · rename_i q; subst q; exact pe_tyD snd_int hg hm PyProof.Rows.boot_int (by decide +kernel) (by decide +kernel) ha hs
  split
  · rename_i q; subst q; exact pe_tyD snd_str hg hm PyProof.Rows.boot_str (by decide +kernel) (by decide +kernel) ha hs
  split
  · rename_i q; subst q; exact pe_bltD (snd_sum g.K g.calm) hg hm (by decide +kernel) (by decide +kernel) (by decide +kernel) ha hs
  split
  · rename_i q; subst q; exact pe_bltD (snd_all g.K g.calm) hg hm (by decide +kernel) (by decide +kernel) (by decide +kernel) ha hs
  split
  · rename_i q; subst q; exact pe_bltD (snd_any g.K g.calm) hg hm (by decide +kernel) (by decide +kernel) (by decide +kernel) ha hs
  · exact pe_no
/-- a def without parameters -/
theorem pe_callSD0 {CX : CXT} {f : Addr} {fd : FuncData} {ps : List Str} {sp : Sp} {dvs : List V} {ds : List Value} {E : L2.St → XK} {x : Str} {p pos : Pos} {j : Nat} (F : FnOk X.prog X.w X.K X.mg X.base CX j f fd ps sp) (hr : Room j X.A) (hg : L2.Gl X x) (hm : X.mg x = some (.ref f)) (hk : PySem.W.keepIn X.K (.ref f) = true) (hb : Binds X.K fd ps ds) (hd : Vals dvs ds) (hx : ∀ σ, PassesAt CX X σ (E σ))
    (hdb : (x == ("__debug__" : Str)) = false) : PE X (.Call (.Name x p) [] [] pos) (tCallSD sp dvs E tNil) := by
  refine ⟨fun pins s σ H Q I h => ?_⟩
  refine wpAny_Call_Name_kw (ld_glob I hg hm ?_ hdb)
  exact PySem.W.callWith_K0 I.kIn hk (run_fnSD (us := []) (vs := []) F hr hb hd (hx σ) I .nil h)
theorem pe_fn (g : Gd C k X W) (go : GOk C G call k) {x : Str} {i m : Nat} {p pos : Pos} {es : List Expr} {ma : M (List D)} (hf : G.fn x = some (i, m)) (hg : L2.Gl X x) (hd : (x == ("__debug__" : Str)) = false) (ha : PA X es (TDA C W ma)) (hs : es.all noStar = true) (hn : es = [] → ma = mNil) :
    PE X (.Call (.Name x p) es [] pos) (TD C W (mCall m (call i) ma)) := by
  obtain ⟨f, fd, ps, h1, h2, h3, h4, h5⟩ := go.fn x i m hf
  have F : FnOk X.prog X.w X.K X.mg X.base (L2.CX X.prog X.w) k f fd ps (SpOf C m (call i)) := by
    rw [g.P, g.w, g.K, g.mg, g.base]; exact h5
  have pa : ∀ σ, PassesAt (L2.CX X.prog X.w) X σ (WE W σ) := fun σ => passAt g.tk σ
  cases es with
  | nil =>
    have := hn rfl
    subst this
    refine (pe_callSD0 F g.room hg (by rw [g.mg]; exact h1) (by rw [g.K]; exact h2) (by rw [g.K]; exact h3) .nil pa hd).imp fun σ H Q h => ?_
    have h := td_call h
    obtain ⟨μ, ρ, st, R, E, h⟩ := h
    exact h [] μ H Ext.refl R .nil
  | cons e es =>
    rw [List.all_cons, Bool.and_eq_true] at hs
    exact (pe_callSD F g.room hg (by rw [g.mg]; exact h1) (by rw [g.K]; exact h2) (by rw [g.K]; exact h3) .nil pa ha hd (star_cons hs.1) (star_any hs.2)).imp fun _ _ _ h => td_call h
theorem pe_cCall (ih : RecOk C G call k rec) (g : Gd C k X W) (f : Fits X Γ) (go : GOk C G call k) {x : Str} {p pos : Pos} {args : List Expr} : PE X (.Call (.Name x p) args [] pos) (TD C W (cCall G call rec Γ x args pos)) := by
  unfold cCall
  split
  · rename_i hc
    have hg := gl_of f hc.1
    have pa := pa_args ih g f hc.2.2
    split
    · rename_i i m hf
      exact pe_fn g go hf hg (plain_debug hc.2.1) pa hc.2.2 (fun e => by subst e; rfl)
    · split
      · rename_i hn
        have hm : X.mg x = none := by rw [g.mg]; exact go.nob x hn
        split
        · rename_i a T
          split
          · rename_i q
            subst q
            have hs := hc.2.2
            rw [List.all_cons, Bool.and_eq_true] at hs
            exact pe_isi g f go (ih Γ X W a g f).1 hg hm hs.1
          · exact pe_blt g hg hm pa hc.2.2
        · exact pe_no
        · rename_i h0
          cases args with
          | nil => exact absurd rfl h0
          | cons e es => exact pe_blt g hg hm pa hc.2.2
      · exact pe_no
  · exact pe_no
theorem pe_mt {T id : String} {x : Str} {o e : Expr} {es : List Expr} {apos cpos : Pos} {f : D → List D → Store → O D} {mo : M D} {ma : M (List D)} (hK : X.K = C.K) (pl : PlainAttrs T) (slot : Slot T x id) (hty : typeOf (.builtin id) = pure (.type "method_descriptor")) (hf : SndM C (fun x xs H Q => ∃ r, MtR X id r ∧ r x xs H Q) f)
    (ho : PE X o (TD C W mo)) (ha : PA X (e :: es) (TDA C W ma)) (hs : (e :: es).all noStar = true) (hb : baseOk o = true) (hl : (apos.endLine == cpos.line) = true) (hn : (e :: es).length < 30) : PE X (.Call (.Attribute o x apos) (e :: es) [] cpos) (TD C W (mMeth T f mo ma)) := by
  have hs' := hs
  rw [List.all_cons, Bool.and_eq_true] at hs'
  exact (pe_bm pl slot hty MtR.any ho ha (base_of hb) (by rw [star_all hs, Bool.true_and]; show (true && decide ((e :: es).length + 0 + 0 < 30)) = true; rw [decide_eq_true (by omega)]; rfl) hl (star_cons hs'.1) (star_any hs'.2)).imp fun _ _ _ h => td_meth hK hf h
theorem pe_mt0 {T id : String} {x : Str} {o : Expr} {apos cpos : Pos} {f : D → List D → Store → O D} {mo : M D} (hK : X.K = C.K) (pl : PlainAttrs T) (slot : Slot T x id) (hty : typeOf (.builtin id) = pure (.type "method_descriptor")) (hf : SndM C (fun x xs H Q => ∃ r, MtR X id r ∧ r x xs H Q) f)
    (ho : PE X o (TD C W mo)) (hb : baseOk o = true) (hl : (apos.endLine == cpos.line) = true) : PE X (.Call (.Attribute o x apos) [] [] cpos) (TD C W (mMeth T f mo mNil)) :=
  (pe_bm0 pl slot hty MtR.any ho (base_of hb) hl).imp fun _ _ _ h => td_meth0 hK hf h
theorem pe_cMeth (g : Gd C k X W) {m : Bool} {x : Str} {o : Expr} {apos cpos : Pos} {args : List Expr} {mo : M D} {ma : M (List D)} (ho : PE X o (TD C W mo)) (ha : PA X args (TDA C W ma)) (hs : args.all noStar = true) (hb : baseOk o = true) (hl : (apos.endLine == cpos.line) = true) :
    PE X (.Call (.Attribute o x apos) args [] cpos) (TD C W (cMeth m x mo args ma)) := by
  unfold cMeth
  split
  · split
    · rename_i q; subst q; exact pe_mt0 g.K PySem.F.plainAttrs_list PySem.F.slot_list_clear PySem.F.type_list_clear snd_clear ho hb hl
    · exact pe_no
  · split
    · rename_i q; subst q; exact pe_mt g.K PySem.F.plainAttrs_list PySem.F.slot_list_append PySem.F.type_list_append snd_append ho ha hs hb hl (by simp)
    split
    · rename_i q; subst q; exact pe_mt g.K PySem.F.plainAttrs_list PySem.F.slot_list_extend PySem.F.type_list_extend snd_extend ho ha hs hb hl (by simp)
    split
    · rename_i q; subst q; exact pe_mt g.K PySem.F.plainAttrs_str PySem.F.slot_str_split PySem.F.type_str_split (snd_split m) ho ha hs hb hl (by simp)
    split
    · rename_i q; subst q; exact pe_mt g.K PySem.F.plainAttrs_str PySem.F.slot_str_join PySem.F.type_str_join (snd_join g.K) ho ha hs hb hl (by simp)
    · exact pe_no
  · exact pe_no
/-! ### comprehensions -/
theorem pi_noL {tg e : Expr} : PI X tg e (TDI C W mNoL) := ⟨fun pins s σ H Q I q => by
  obtain ⟨_, _, _, _, _, h⟩ := q
  exact h.elim⟩
theorem pi_iter (ih : RecOk C G call k rec) (g : Gd C k X W) (f : Fits X Γ) (go : GOk C G call k) {tg e : Expr} : PI X tg e (TDI C W (cIter G rec Γ tg e)) := by
  have it : PI X tg e (TDI C W (mItems (rec Γ e).1)) := pi_itemsD g.K (ih Γ X W e g f).1
  unfold cIter
  split
  · rename_i x p args pos
    split
    · rename_i hc
      have hg := gl_of f hc.1
      have hm : X.mg x = none := by rw [g.mg]; exact go.nob x hc.2.1
      split
      · rename_i q
        subst q
        split
        · rename_i a
          have hs := hc.2.2
          simp only [List.all_cons, List.all_nil, Bool.and_true] at hs
          exact pi_rangeD1 hg hm (ih Γ X W a g f).1 (star_cons hs)
        · rename_i a b
          have hs := hc.2.2
          simp only [List.all_cons, List.all_nil, Bool.and_true, Bool.and_eq_true] at hs
          exact pi_rangeD2 hg hm (ih Γ X W a g f).1 (ih Γ X W b g f).1 (by rw [star_cons hs.1, star_cons hs.2]; rfl) (star_cons hs.2)
        · exact pi_noL
      split
      · rename_i q
        subst q
        split
        · rename_i a
          have hs := hc.2.2
          simp only [List.all_cons, List.all_nil, Bool.and_true] at hs
          split
          · rename_i ht
            cases tg with
            | Tuple elts kk tpos => exact pi_enumD g.K hg hm (ih Γ X W a g f).1 (star_cons hs)
            | _ => cases ht
          · exact pi_noL
        · exact pi_noL
      split
      · rename_i q
        subst q
        split
        · rename_i a b
          have hs := hc.2.2
          simp only [List.all_cons, List.all_nil, Bool.and_true, Bool.and_eq_true] at hs
          split
          · rename_i ht
            cases tg with
            | Tuple elts kk tpos => exact pi_zipD g.K hg hm (ih Γ X W a g f).1 (ih Γ X W b g f).1 (star_cons hs.1) (star_cons hs.2)
            | _ => cases ht
          · exact pi_noL
        · exact pi_noL
      · exact it
    · exact it
  · split
    · exact pi_noL
    · exact it
theorem loc_of (f : Fits X Γ) {x : Str} (h : locB Γ x = true) : L2.Loc X.env.scope x ∧ (X.fn x = true ∨ X.env.scope.names.lookup x = some .local) := by
  unfold locB at h
  unfold L2.Loc
  rw [f.sc]
  split at h
  · exact ⟨.inl (by assumption), .inr (by assumption)⟩
  · exact ⟨.inr (by assumption), .inl (f.fnC x h)⟩
  · cases h
theorem pg_slot (nd : X.N.Nodup) (f : Fits X Γ) {e : Expr} {i : Nat} (h : nameSlot Γ e = some i) : PG X e (gName i) ∧ ∀ env, assignEach [e] env = [(false, assign e env)] := by
  cases e with
  | Name x p =>
    have h' : (if locB Γ x = true then ixOf Γ.N x else none) = some i := h
    split at h'
    · rename_i hl
      obtain ⟨l1, l2⟩ := loc_of f hl
      exact ⟨pg_name nd (by rw [f.N]; exact ixOf_get h') l1 l2, fun _ => rfl⟩
    · cases h'
  | _ => cases h
theorem names_each (Γ : Gm) {env : Env} : ∀ {es : List Expr} {is : List Nat}, namesSlots Γ es = some is → es.length = is.length ∧ (assignEach es env).length = is.length ∧ (assignEach es env).findIdx? (·.1) = none
  | [], is, h => by cases h; exact ⟨rfl, rfl, rfl⟩
  | e :: r, is, h => by
    unfold namesSlots at h
    cases q1 : nameSlot Γ e with
    | none => simp only [q1] at h; cases h
    | some i =>
      cases q2 : namesSlots Γ r with
      | none => simp only [q1, q2] at h; cases h
      | some js =>
        simp only [q1, q2] at h
        cases h
        obtain ⟨h1, h2, h3⟩ := names_each Γ (env := env) q2
        cases e with
        | Name x p =>
          refine ⟨by rw [List.length_cons, List.length_cons, h1], ?_, ?_⟩
          · show ((false, assign (.Name x p) env) :: assignEach r env).length = _
            rw [List.length_cons, List.length_cons, h2]
          · show ((false, assign (.Name x p) env) :: assignEach r env).findIdx? (·.1) = none
            rw [List.findIdx?_cons, h3]; rfl
        | _ => cases q1
theorem pgs_slots (nd : X.N.Nodup) (f : Fits X Γ) : ∀ {es : List Expr} {is : List Nat}, namesSlots Γ es = some is → PGs X es (gNames is)
  | [], is, h => by cases h; exact pgs_nil
  | e :: r, is, h => by
    unfold namesSlots at h
    cases q1 : nameSlot Γ e with
    | none => simp only [q1] at h; cases h
    | some i =>
      cases q2 : namesSlots Γ r with
      | none => simp only [q1, q2] at h; cases h
      | some js =>
        simp only [q1, q2] at h
        cases h
        refine pgs_cons (pg_slot nd f q1).1 (pgs_slots nd f q2) ?_
        cases e with
        | Name x p => rfl
        | _ => cases q1
theorem pg_tgt (nd : X.N.Nodup) (hc : X.calm = true) (f : Fits X Γ) {e : Expr} {t : Tgt} (h : tgtOf Γ e = some t) : PG X e (gOf X.K t) := by
  cases e with
  | Name x p =>
    obtain ⟨i, h1, rfl⟩ := map_some (show (nameSlot Γ (.Name x p)).map Tgt.one = some t from h)
    exact (pg_slot nd f h1).1
  | Tuple es kk p =>
    obtain ⟨is, h1, rfl⟩ := map_some (show (namesSlots Γ es).map Tgt.many = some t from h)
    obtain ⟨_, h2, h3⟩ := names_each Γ (env := X.env) h1
    exact pg_tup hc (pgs_slots nd f h1) h2 h3
  | _ => cases h
theorem Gd.blk (g : Gd C k X W) (s : Shared) (H : Hp) (scope : Scope) (cenv : Env) (fp : List Addr) : Gd C k (X.blk s H scope cenv fp) W0 :=
  ⟨g.P, g.w, g.K, g.mg, g.base, g.calm, g.nd, g.room, takes0, PassesOwn.never⟩
theorem Fits.blk (f : Fits X Γ) (s : Shared) (H : Hp) (scope : Scope) (cl : List (Str × Addr)) (a : Addr) (fp : List Addr) : Fits (X.blk s H scope (compEnvC scope cl a X.env) fp) (blkG Γ scope) :=
  ⟨f.N, by show relS scope X.env.scope = relS scope Γ.sc; rw [f.sc], fun x h => h⟩
theorem set_iter {iter : Expr} (h : isSet iter = false) (env : Env) : ∀ x, foldedSetIterable iter env x = pure x := by
  intro x
  cases iter <;> first | rfl | cases h
/-- the parts of a comprehension -/
theorem comp_parts (ih : RecOk C G call k rec) (g : Gd C k X W) (f : Fits X Γ) (go : GOk C G call k) {elt tg iter : Expr} {ifs : List Expr} {scope : Scope} {pos : Pos} :
    (cComp G rec Γ elt tg iter ifs scope pos = mNo) ∨ ∃ (wi : TI) (gg : TG) (tt : TT) (te : TE) (own : List (Str × Nat)), PI X tg iter wi ∧ BlkOk X.N X.env.scope scope own ∧ isSet iter = false ∧
      (∀ (s : Shared) (H : Hp) (a : Addr) (cl : List (Str × Addr)) (fp : List Addr), PG (X.blk s H scope (compEnvC scope cl a X.env) fp) tg gg) ∧
      (∀ (s : Shared) (H : Hp) (a : Addr) (cl : List (Str × Addr)) (fp : List Addr), PTs (X.blk s H scope (compEnvC scope cl a X.env) fp) ifs tt) ∧
      (∀ (s : Shared) (H : Hp) (a : Addr) (cl : List (Str × Addr)) (fp : List Addr), PE (X.blk s H scope (compEnvC scope cl a X.env) fp) elt te) ∧
      ∀ σ H Q, TD C W (cComp G rec Γ elt tg iter ifs scope pos) σ H Q → tLc wi gg tt te (own.map (·.2)) σ H Q := by
  unfold cComp
  cases ht : tgtOf (blkG Γ scope) tg with
  | none => exact .inl rfl
  | some t =>
    dsimp only
    split
    · rename_i hc
      refine .inr ⟨_, gOf X.K t, TDT C W0 (cIfs rec (blkG Γ scope) ifs), TD C W0 (rec (blkG Γ scope) elt).1, ownOf Γ.N scope, pi_iter ih g f go, ?_, hc.2.2, fun s H a cl fp => ?_, fun s H a cl fp => ?_, fun s H a cl fp => ?_, fun σ H Q h => ?_⟩
      · rw [f.N, f.sc]; exact blkOk_by hc.1
      · exact pg_tgt (g.blk s H scope _ fp).nd (g.blk s H scope _ fp).calm (f.blk s H scope cl a fp) ht
      · have g' := g.blk s H scope (compEnvC scope cl a X.env) fp
        have f' := f.blk s H scope cl a fp
        match ifs with
        | [] => exact ⟨fun pins s' σ' H' Q' I q => pts_nil.run pins s' σ' H' Q' I (by
            obtain ⟨μ, ρ, st, R, E, h⟩ := q
            exact h true μ H' Ext.refl R rfl)⟩
        | [c] => exact pts_one (ih _ _ _ c g' f').2
        | _ :: _ :: _ => exact ⟨fun pins s' σ' H' Q' I q => by
            obtain ⟨μ, ρ, st, R, E, h⟩ := q
            exact False.elim h⟩
      · exact (ih _ _ _ elt (g.blk s H scope (compEnvC scope cl a X.env) fp) (f.blk s H scope cl a fp)).1
      · refine td_lc g.K (fun i hi => ?_) h
        have := hc.2.1
        rw [List.all_eq_true] at this
        simpa using this i hi
    · exact .inl rfl
theorem pe_comp (ih : RecOk C G call k rec) (g : Gd C k X W) (f : Fits X Γ) (go : GOk C G call k) {elt tg iter : Expr} {ifs : List Expr} {scope : Scope} {pos : Pos} :
    PE X (.ListComp elt [⟨tg, iter, ifs, 0⟩] scope pos) (TD C W (cComp G rec Γ elt tg iter ifs scope pos)) := by
  rcases comp_parts ih g f go (elt := elt) (tg := tg) (iter := iter) (ifs := ifs) (scope := scope) (pos := pos) with e | ⟨wi, gg, tt, te, own, h1, h2, h3, h4, h5, h6, h7⟩
  · rw [e]; exact pe_no
  · exact (pe_lc g.calm g.nd h1 h2 h4 h5 h6 (set_iter h3 _)).imp h7
/-! ### replaced texts -/
theorem replL_replC (c : Nat) (z : List Nat) : ∀ l : List Nat, StrLaws.replL [c] z l = replC c z l
  | [] => StrLaws.replL_nil
  | a :: r => by
    by_cases e : a = c
    · subst e
      rw [StrLaws.replL_hit (by simp) (by simp)]
      show z ++ StrLaws.replL [a] z r = _
      rw [replL_replC a z r]
      unfold replC
      rw [List.flatMap_cons, if_pos rfl]
    · rw [StrLaws.replL_miss (by simpa using e), replL_replC c z r]
      unfold replC
      rw [List.flatMap_cons, if_neg e]; rfl
theorem replace_C {x z : Str} {c : Nat} : Txt.replace x ⟨#[c]⟩ z = ⟨(replC c z.cps.toList x.cps.toList).toArray⟩ := by
  refine TL.ext_tl ?_
  show (Txt.replace x ⟨#[c]⟩ z).cps.toList = _
  rw [StrLaws.replace_list (by show 1 ≤ 1; decide), replL_replC]
theorem mem_replC {c : Nat} {z l : List Nat} {a : Nat} (h : a ∈ replC c z l) : a ∈ z ∨ a ∈ l := by
  unfold replC at h
  rw [List.mem_flatMap] at h
  obtain ⟨b, hb, h⟩ := h
  split at h
  · exact .inl h
  · rw [List.mem_singleton] at h
    subst h
    exact .inr hb
theorem replC_len (c : Nat) (z : List Nat) : ∀ l : List Nat, (replC c z l).length ≤ l.length + (l.length + 1) * z.length
  | [] => by simp [replC]
  | a :: r => by
    have ih := replC_len c z r
    have e : replC c z (a :: r) = (if a = c then z else [a]) ++ replC c z r := by unfold replC; rw [List.flatMap_cons]
    rw [e, List.length_append, List.length_cons]
    have h1 : (if a = c then z else [a]).length ≤ 1 + z.length := by split <;> simp
    have h2 : (r.length + 1 + 1) * z.length = (r.length + 1) * z.length + z.length := by rw [Nat.succ_mul]
    omega
theorem repl_inv {op : Operator} {a b : Expr} {p : ReplP} (h : replPat op a b = some p) : ∃ (j0 j1 j2 : Nat) (p0 p1 p2 apos pos : Pos) (y : Str), op = .Add ∧ a = .Constant (.str p.s) j0 p0 ∧ b = .Call (.Attribute p.o "replace" apos) [.Constant (.str y) j1 p1, .Constant (.str p.z) j2 p2] [] pos ∧
    y = ⟨#[p.c]⟩ ∧ (y == p.z) = false ∧ strFine p.s = true ∧ strFine p.z = true ∧ baseOk p.o = true ∧ (apos.endLine == pos.line) = true := by
  unfold replPat at h
  split at h
  · split at h
    · rename_i c e
      split at h
      · rename_i hc
        cases h
        obtain ⟨h1, h2, h3, h4, h5, h6⟩ := hc
        subst h1
        exact ⟨_, _, _, _, _, _, _, _, _, rfl, rfl, rfl, str_one e, h2, h3, h4, h5, h6⟩
      · cases h
    · cases h
  · cases h
theorem pe_repl (g : Gd C k X W) {op : Operator} {a b : Expr} {pos : Pos} {p : ReplP} {m : Bool} {mo : M D} (h : replPat op a b = some p) (ho : PE X p.o (TD C W mo)) : PE X (.BinOp a op b pos) (TD C W (mBin (dAdd m) (mC (.str p.s)) (mUn (dRepl p.c p.z) mo))) := by
  obtain ⟨j0, j1, j2, p0, p1, p2, apos, pos2, y, rfl, rfl, rfl, ey, hyz, hs, hz, hb, hl⟩ := repl_inv h
  unfold strFine at hs hz
  rw [Bool.and_eq_true, decide_eq_true_eq] at hs hz
  have hr := CwR.pet_replC (c0 := p1) (c1 := p2) (j := j1) (k := j2) ho hyz rfl (base_of hb) hl
  have key : PE X (.BinOp (.Constant (.str p.s) j0 p0) .Add (.Call (.Attribute p.o "replace" apos) [.Constant (.str y) j1 p1, .Constant (.str p.z) j2 p2] [] pos2) pos) (tOp (fun x y H Q => ∃ r, OpR X (binaryOp .Add) r ∧ r x y H Q) (tC (.str p.s)) (CwR.tReplC (TD C W mo) y p.z)) := by
    refine ⟨fun pins s σ H Q I h => ?_⟩
    refine wpAny_BinOp (Calls.Constant_str ?_)
    have h : CwR.tReplC (TD C W mo) y p.z σ H (fun yv H2 => ∃ r, OpR X (binaryOp .Add) r ∧ r (.str p.s) yv H2 Q) := h
    refine thn (hr pins _ σ H _ (by show 1 ≤ s.toks + 1; omega) (I.tok _) h) fun u s2 ⟨yv, H2, I2, r2, q2⟩ => ?_
    exact OpR.any pins s2 σ H2 (.str p.s) yv _ u Q I2 ⟨_, rfl⟩ r2 q2
  refine key.imp fun σ H Q h => ?_
  obtain ⟨μ, ρ, st, R, E, h⟩ := h
  have h : Post C Dat W σ Q st.length μ H ((mUn (dRepl p.c p.z) mo ρ st).bind fun y st2 => dAdd m (.str p.s) y st2) := h
  unfold mUn at h
  refine ⟨μ, ρ, st, R, E, ?_⟩
  cases q : mo ρ st with
  | no => rw [q] at h; exact h
  | ex x st1 => rw [q] at h; exact h
  | ok d st1 =>
    rw [q] at h
    intro v μ1 H1 e1 R1 d1
    cases d1 with
    | @str x hl1 ok1 =>
      have h : Post C Dat W σ Q st.length μ H ((if x.length + (x.length + 1) * p.z.length ≤ 16777216 then O.ok (D.str ⟨(replC p.c p.z.cps.toList x.cps.toList).toArray⟩) st1 else .no).bind fun y st2 => dAdd m (.str p.s) y st2) := h
      split at h
      · rename_i hc
        have h : Post C Dat W σ Q st.length μ H (dAdd m (.str p.s) (.str ⟨(replC p.c p.z.cps.toList x.cps.toList).toArray⟩) st1) := h
        refine ⟨x, rfl, hc, ?_⟩
        rw [ey, replace_C]
        refine snd_add g.K m μ1 st1 H1 (.str p.s) _ (.str p.s) _ W σ Q R1 (.str hs.1 hs.2) (.str ?_ (strOk_list fun c hc' => ?_)) (Post.go e1 h)
        · show (replC p.c p.z.cps.toList x.cps.toList).toArray.size ≤ sizeLine
          rw [List.size_toArray]
          have := replC_len p.c p.z.cps.toList x.cps.toList
          rw [Array.length_toList, Array.length_toList] at this
          have e : sizeLine = 16777216 := by decide
          rw [e]
          exact Nat.le_trans this hc
        · rcases mem_replC hc' with q | q
          · exact strOk_mem hz.2 q
          · exact strOk_mem ok1 q
      · exact False.elim h
    | _ => exact False.elim h
/-! ### all expressions -/
theorem po_part (ih : RecOk C G call k rec) (g : Gd C k X W) (f : Fits X Γ) {e : Option Expr} : PO X e (TDO C W (cPart rec Γ e)) := by
  cases e with
  | none => exact po_noneD
  | some e => exact po_someD (ih Γ X W e g f).1
theorem pe_sl (hK : X.K = C.K) {a : Expr} {lo hi : Option Expr} {p2 pos : Pos} {m : Bool} {ma : M D} {ml mh : M (Option Int)} (ha : PE X a (TD C W ma)) (hl : PO X lo (TDO C W ml)) (hh : PO X hi (TDO C W mh)) : PE X (.Subscript a (.Slice lo hi none p2) pos) (TD C W (mSl m ma ml mh)) :=
  (pe_slice SlR.any ha hl hh).imp fun σ H Q h => by
    obtain ⟨μ, ρ, st, R, E, h⟩ := h
    refine ⟨μ, ρ, st, R, E, (Post.bind (R := Dat) h).imp fun v H1 ⟨x, st1, μ1, _, e1, R1, d1, h1⟩ => ?_⟩
    refine ⟨μ1, ρ, st1, R1, E.ext e1, (Post.bind (R := RO) h1).imp fun l H2 ⟨l', st2, μ2, _, e2, R2, d2, h2⟩ => ?_⟩
    subst d2
    refine ⟨μ2, ρ, st2, R2, (E.ext e1).ext e2, (Post.bind (R := RO) h2).imp fun u H3 ⟨u', st3, μ3, _, e3, R3, d3, h3⟩ => ?_⟩
    subst d3
    exact snd_sl hK m R3 ((d1.ext e2).ext e3) h3
theorem pe_val (ih : RecOk C G call k rec) (g : Gd C k X W) (f : Fits X Γ) (go : GOk C G call k) (e : Expr) : PE X e (TD C W (cVal G call rec Γ e)) := by
  unfold cVal
  split
  · exact pe_int.imp fun _ _ _ h => td_c (fun _ _ _ => .int _) h
  · split
    · rename_i hs
      unfold strFine at hs
      rw [Bool.and_eq_true, decide_eq_true_eq] at hs
      exact pe_str.imp fun _ _ _ h => td_c (fun _ _ _ => .str hs.1 hs.2) h
    · exact pe_no
  · exact pe_bl.imp fun _ _ _ h => td_c (fun _ _ _ => .bl _) h
  · exact pe_non.imp fun _ _ _ h => td_c (fun _ _ _ => .non) h
  · rename_i x p
    split
    · rename_i i hi
      unfold slotOf at hi
      split at hi
      · rename_i hc
        exact (pe_var (by rw [f.N]; exact ixOf_get hi) (vis_of f hc.1) (plain_debug hc.2) (plain_cd hc.2)).imp fun _ _ _ h => td_var h
      · cases hi
    · split
      · rename_i hc
        split
        · rename_i d hd
          obtain ⟨u, v, h1, h2, h3⟩ := go.con x d hd
          exact (pe_glob (gl_of f hc.1) (by rw [g.mg]; exact h1) h2 (plain_debug hc.2)).imp fun _ _ _ h => td_c h3 h
        · exact pe_no
      · exact pe_no
  · split
    · exact (pe_tup (pa_args ih g f (by assumption))).imp fun _ _ _ h => td_tup h
    · exact pe_no
  · split
    · exact (pe_lst (pa_args ih g f (by assumption))).imp fun _ _ _ h => td_lst h
    · exact pe_no
  · exact pe_dnewK.imp fun _ _ _ h => td_dnew h
  · split
    · rename_i p hp
      exact pe_repl g hp (ih Γ X W _ g f).1
    · exact pe_bin g (ih Γ X W _ g f).1 (ih Γ X W _ g f).1
  · exact (pe_notT (ih Γ X W _ g f).1).imp fun _ _ _ h => td_notV g.K h
  · exact pe_unD snd_neg (ih Γ X W _ g f).1
  · exact pe_ands ih g f
  · exact pe_ors ih g f
  · split
    · rename_i hf
      split
      · exact pe_cmpD (cmp_snd g hf) (ih Γ X W _ g f).1 (ih Γ X W _ g f).1 (by assumption)
      · exact pe_no
    · exact pe_no
  · split
    · rename_i h1 h2
      split
      · exact (pe_chain OpR.any OpR.any (ih Γ X W _ g f).1 (ih Γ X W _ g f).1 (ih Γ X W _ g f).1 (by assumption)).imp fun _ _ _ h => td_chain (cmp_snd g h1) (cmp_snd g h2) h
      · exact pe_no
    · exact pe_no
  · exact pe_ifD (ih Γ X W _ g f).2 (ih Γ X W _ g f).1 (ih Γ X W _ g f).1
  · exact pe_sl g.K (ih Γ X W _ g f).1 (po_part ih g f) (po_part ih g f)
  · split
    · exact pe_ixD (snd_ix g.K g.u65) (ih Γ X W _ g f).1 (ih Γ X W _ g f).1 (plainIx_of (by assumption))
    · exact pe_no
  · exact pe_cCall ih g f go
  · split
    · rename_i hc
      exact pe_cMeth g (ih Γ X W _ g f).1 (pa_args ih g f hc.1) hc.1 hc.2.1 hc.2.2
    · exact pe_no
  · exact pe_comp ih g f go
  · exact pe_no
theorem td_test {m : M D} {σ : L2.St} {H : Hp} {Q : Bool → Hp → Prop} {t : TE} (ht : ∀ Q', TD C W m σ H Q' → t σ H Q') (h : TDT C W (mTest m) σ H Q) : tTest t σ H Q := by
  obtain ⟨μ, ρ, st, R, E, h⟩ := h
  refine ht _ ⟨μ, ρ, st, R, E, (Post.bind (R := Dat) h).imp fun v H1 ⟨d, st1, μ1, _, e1, R1, d1, h1⟩ => ?_⟩
  cases d1 with
  | bl b => exact ⟨b, rfl, h1 b μ1 H1 Ext.refl R1 rfl⟩
  | _ => exact False.elim h1
theorem pt_tst (ih : RecOk C G call k rec) (g : Gd C k X W) (f : Fits X Γ) (go : GOk C G call k) (e : Expr) : PT X e (TDT C W (cTst G call rec Γ e)) := by
  unfold cTst
  split
  · exact (pt_not (ih Γ X W _ g f).2).imp fun _ _ _ h => td_not h
  · exact (pw_ands ih g f).pt
  · exact (pw_ors ih g f).pt
  · rename_i a op b pos
    cases hf : cmpF op with
    | none => cases op <;> cases hf
    | some fn =>
      by_cases hm : behindInMarks op b = false
      · refine (pt_cmpR OpR.any (ih Γ X W a g f).1 (ih Γ X W b g f).1 hm).imp fun σ H Q h => td_test (t := tOp _ (TD C W (rec Γ a).1) (TD C W (rec Γ b).1)) (fun Q' h' => ?_) h
        have e2 : cVal G call rec Γ (.Compare a [op] [b] pos) = mBin fn (rec Γ a).1 (rec Γ b).1 := by
          show (match cmpF op with | some f => if behindInMarks op b = false then mBin f (rec Γ a).1 (rec Γ b).1 else mNo | none => mNo) = _
          rw [hf]; dsimp only; rw [if_pos hm]
        rw [e2] at h'
        exact td_op (cmp_snd g hf) h'
      · have e2 : cVal G call rec Γ (.Compare a [op] [b] pos) = mNo := by
          show (match cmpF op with | some f => if behindInMarks op b = false then mBin f (rec Γ a).1 (rec Γ b).1 else mNo | none => mNo) = _
          rw [hf]; dsimp only; rw [if_neg hm]
        rw [e2]
        exact ⟨fun pins s σ H Q I q => by
          obtain ⟨_, _, _, _, _, h⟩ := q
          exact False.elim h⟩
  · rename_i a op op2 b c pos
    cases hf : cmpF op with
    | none => cases op <;> cases hf
    | some fn =>
      cases hf2 : cmpF op2 with
      | none => cases op2 <;> cases hf2
      | some fn2 =>
        by_cases hm : lastMarks [op, op2] [b, c] = false
        · refine (pt_chain OpR.any OpR.any (ih Γ X W a g f).1 (ih Γ X W b g f).1 (ih Γ X W c g f).1 hm).imp fun σ H Q h => td_test (t := tChain _ _ (TD C W (rec Γ a).1) (TD C W (rec Γ b).1) (TD C W (rec Γ c).1)) (fun Q' h' => ?_) h
          have e2 : cVal G call rec Γ (.Compare a [op, op2] [b, c] pos) = mChain fn fn2 (rec Γ a).1 (rec Γ b).1 (rec Γ c).1 := by
            show (match cmpF op, cmpF op2 with | some f, some g => if lastMarks [op, op2] [b, c] = false then mChain f g (rec Γ a).1 (rec Γ b).1 (rec Γ c).1 else mNo | _, _ => mNo) = _
            rw [hf, hf2]; dsimp only; rw [if_pos hm]
          rw [e2] at h'
          exact td_chain (cmp_snd g hf) (cmp_snd g hf2) h'
        · have e2 : cVal G call rec Γ (.Compare a [op, op2] [b, c] pos) = mNo := by
            show (match cmpF op, cmpF op2 with | some f, some g => if lastMarks [op, op2] [b, c] = false then mChain f g (rec Γ a).1 (rec Γ b).1 (rec Γ c).1 else mNo | _, _ => mNo) = _
            rw [hf, hf2]; dsimp only; rw [if_neg hm]
          rw [e2]
          exact ⟨fun pins s σ H Q I q => by
            obtain ⟨_, _, _, _, _, h⟩ := q
            exact False.elim h⟩
  · split
    · exact pt_truD g.K (pe_val ih g f go e) (plainT_of (by assumption))
    · exact pt_no
theorem rec_ok (go : GOk C G call k) : ∀ n : Nat, RecOk C G call k (cET G call n)
  | 0 => fun Γ X W e g f => ⟨pe_no, pt_no⟩
  | n + 1 => fun Γ X W e g f => ⟨pe_val (rec_ok go n) g f go e, pt_tst (rec_ok go n) g f go e⟩
end
end Mi
/-! Mi15: statements. -/
namespace Mi
open PySem L2

def sNo : MS := fun _ _ => .no
def isCompE : Expr → Bool
  | .ListComp _ _ _ _ => true
  | .SetComp _ _ _ _ => true
  | .DictComp _ _ _ _ _ => true
  | _ => false
/-- how many turns a while may take -/
def loopFuel : Nat := 100000
def swapB (Γ : Gm) (y : Str) (py pos : Pos) (scope : Scope) : Bool := (match Γ.sc.kind with | .function => true | _ => false) && (match Γ.sc.names.lookup y with | some .local => true | _ => false) && (py.line == pos.line) && !(scope.names.any fun (n, k) => n == y && (k == .local || k == .cell))
def cAsg (G : Gs) (call : Nat → Fn) (rec : Rec) (Γ : Gm) (tg e : Expr) : MS := match tg with
  | .Name x p => match tgtOf Γ (.Name x p) with
    | some t => match e with
      | .ListComp elt [⟨tg', iter, ifs, 0⟩] scope pos => if swapB Γ x p pos scope = true then sAsg (cComp G rec Γ elt tg' iter ifs scope pos) t else sNo
      | e => if isCompE e = true then sNo else sAsg (rec Γ e).1 t
    | none => sNo
  | .Tuple ts kk p => if isTup e = true then sNo else (match tgtOf Γ (.Tuple ts kk p) with
    | some t => if isCompE e = true then sNo else sAsg (rec Γ e).1 t
    | none => sNo)
  | _ => sNo
def cSt (G : Gs) (call : Nat → Fn) (rec : Rec) (rs : Gm → List Stmt → MS) (Γ : Gm) : Stmt → MS
  | .Assign [tg] e _ => cAsg G call rec Γ tg e
  | .Expr e _ => if isCompE e = true then sNo else sExpr (rec Γ e).1
  | .Return (some e) _ => sRet (rec Γ e).1
  | .Return none _ => sRetN
  | .If c a b _ => sIf (rec Γ c).2 (rs Γ a) (rs Γ b)
  | .For tg it b [] _ => if isSet it = true then sNo else (match tgtOf Γ tg with
    | some t => sFor (cIter G rec Γ tg it) t (rs Γ b)
    | none => sNo)
  | .While c b [] _ => sWhile (rec Γ c).2 (rs Γ b) loopFuel
  | .Pass _ => sNil
  | .Break _ => sBreak
  | .Continue _ => sCont
  | _ => sNo
def cBlk (f : Stmt → MS) : List Stmt → MS
  | [] => sNil
  | [s] => f s
  | s :: r => sSeq (f s) (cBlk f r)
/-- a block; n: how deep statements stand in one another -/
def cSs (G : Gs) (call : Nat → Fn) (rec : Rec) : Nat → Gm → List Stmt → MS
  | 0 => fun _ _ => sNo
  | n + 1 => fun Γ l => cBlk (cSt G call rec (cSs G call rec n) Γ) l
section
variable {C : Cf} {G : Gs} {call : Nat → Fn} {k : Nat} {rec : Rec} {Γ : Gm} {X : Cx} {W : WX}
def BlkOkR (C : Cf) (k : Nat) (rs : Gm → List Stmt → MS) : Prop := ∀ (Γ : Gm) (X : Cx) (W : WX) (l : List Stmt), Gd C k X W → Fits X Γ → PSs X l (TDS C W (rs Γ l))
theorem pss_no {l : List Stmt} : PSs X l (TDS C W sNo) := ⟨fun pins s σ H Q I q => by
  obtain ⟨_, _, _, _, _, h⟩ := q
  exact h.elim⟩
theorem sw_none {e : Expr} (h : isCompE e = false) (t : Option Expr) (l : Nat) (env : Env) : swapsWith e t l env = pure false := by
  cases e <;> first | rfl | cases h
theorem sw_tuple {e : Expr} {ts : List Expr} {kk : Nat} {p : Pos} (l : Nat) (env : Env) : swapsWith e (some (.Tuple ts kk p)) l env = pure false := by
  cases e <;> rfl
theorem ps_asgD (ih : RecOk C G call k rec) (g : Gd C k X W) (f : Fits X Γ) (go : GOk C G call k) {tg e : Expr} {pos : Pos} : PS X (.Assign [tg] e pos) (TDS C W (cAsg G call rec Γ tg e)) := by
  unfold cAsg
  split
  · rename_i x p
    cases ht : tgtOf Γ (.Name x p) with
    | none => exact ps_no
    | some t =>
      dsimp only
      have ht' := ht
      obtain ⟨i, hi, rfl⟩ := map_some (show (nameSlot Γ (.Name x p)).map Tgt.one = some t from ht')
      have hi' : (if locB Γ x = true then ixOf Γ.N x else none) = some i := hi
      split
      · rename_i elt tg' iter ifs scope cpos
        split
        · rename_i hsw
          rcases comp_parts ih g f go (elt := elt) (tg := tg') (iter := iter) (ifs := ifs) (scope := scope) (pos := cpos) with e | ⟨wi, gg, tt, te, own, h1, h2, h3, h4, h5, h6, h7⟩
          · rw [e]
            exact ⟨fun pins s σ H D I q => by
              obtain ⟨_, _, _, _, _, h⟩ := q
              exact False.elim h⟩
          · unfold swapB at hsw
            simp only [Bool.and_eq_true] at hsw
            obtain ⟨⟨⟨s1, s2⟩, s3⟩, s4⟩ := hsw
            have k1 : X.env.scope.kind = .function := by
              rw [f.sc]
              split at s1
              · assumption
              · cases s1
            have k2 : X.env.scope.names.lookup x = some .local := by
              rw [f.sc]
              split at s2
              · assumption
              · cases s2
            have k3 : X.N[i]? = some x := by
              rw [f.N]
              split at hi'
              · exact ixOf_get hi'
              · cases hi'
            refine (ps_setLc g.calm g.nd k3 k2 (sw_true k1 k2 s3 (by simpa using s4)) h1 h2 h4 h5 h6 (set_iter h3 _)).imp fun D σ H h => ?_
            have h := td_asg g.K h
            show tLc wi gg tt te (own.map (·.2)) σ H fun x H1 => gName i x σ H1 D.nx
            exact h7 σ H _ h
        · exact ps_no
      · split
        · exact ps_no
        · rename_i hc
          have hc : isCompE e = false := by simpa using hc
          exact (ps_asg (ih Γ X W e g f).1 (pg_tgt g.nd g.calm f ht) (show swapsWithSole [.Name x p] e pos.line X.env = pure false from sw_none hc (some (.Name x p)) pos.line X.env) rfl rfl).imp fun _ _ _ h => td_asg g.K h
  · rename_i ts kk p
    split
    · exact ps_no
    · rename_i hT
      cases ht : tgtOf Γ (.Tuple ts kk p) with
      | none => exact ps_no
      | some t =>
        dsimp only
        split
        · exact ps_no
        · refine (ps_asg (ih Γ X W e g f).1 (pg_tgt g.nd g.calm f ht) (show swapsWithSole [.Tuple ts kk p] e pos.line X.env = pure false from sw_tuple (ts := ts) (kk := kk) (p := p) pos.line X.env) ?_ rfl).imp fun _ _ _ h => td_asg g.K h
          cases e <;> first | rfl | exact absurd rfl hT
  · exact ps_no
theorem ps_stD (ih : RecOk C G call k rec) {rs : Gm → List Stmt → MS} (is : BlkOkR C k rs) (g : Gd C k X W) (f : Fits X Γ) (go : GOk C G call k) (s : Stmt) : PS X s (TDS C W (cSt G call rec rs Γ s)) := by
  unfold cSt
  split
  · exact ps_asgD ih g f go
  · split
    · exact ps_no
    · rename_i hc
      exact (ps_expr (ih Γ X W _ g f).1 (sw_none (by simpa using hc) _ _ _)).imp fun _ _ _ h => td_expr h
  · exact (ps_ret (ih Γ X W _ g f).1).imp fun _ _ _ h => td_ret h
  · exact ps_retN.imp fun _ _ _ h => td_retN h
  · exact (ps_if (ih Γ X W _ g f).2 (is Γ X W _ g f) (is Γ X W _ g f)).imp fun _ _ _ h => td_if h
  · split
    · exact ps_no
    · rename_i hs
      cases ht : tgtOf Γ _ with
      | none => exact ps_no
      | some t =>
        dsimp only
        exact (ps_for g.own g.calm (pi_iter ih g f go) (pg_tgt g.nd g.calm f ht) (is Γ X W _ g f) (set_iter (by simpa using hs) _)).imp fun _ _ _ h => td_for g.K h
  · exact (ps_while g.own (ih Γ X W _ g f).2 (is Γ X W _ g f)).imp fun _ _ _ h => td_while h
  · exact ps_pass.imp fun _ _ _ h => td_nil h
  · exact ps_break.imp fun _ _ _ h => td_break h
  · exact ps_continue.imp fun _ _ _ h => td_cont h
  · exact ps_no
theorem pss_blk {fn : Stmt → MS} (h : ∀ s, PS X s (TDS C W (fn s))) : ∀ l : List Stmt, PSs X l (TDS C W (cBlk fn l))
  | [] => pss_nil.imp fun _ _ _ h => td_nil h
  | [s] => pss_one (h s)
  | s :: t :: r => (pss_cons (h s) (pss_blk h (t :: r))).imp fun _ _ _ h => td_seq h
theorem blk_ok (ih : RecOk C G call k rec) (go : GOk C G call k) : ∀ n : Nat, BlkOkR C k (cSs G call rec n)
  | 0 => fun Γ X W l g f => pss_no
  | n + 1 => fun Γ X W l g f => pss_blk (fun s => ps_stD ih (blk_ok ih go n) g f go s) l
end
end Mi
/-! Mi16: the program: a table of defs; the law. -/
namespace Mi
open PySem L2

structure FE where
  name : Str
  sd : Stmt
  N : List Str
  ps : List Str
  fzd : Bool
/-- the body of a def as a function of data -/
def bodyOf (G : Gs) (call : Nat → Fn) (sd : Stmt) (N : List Str) : MS := cSs G call (cET G call 60) 20 ⟨N, defScope sd, fun _ => true⟩ (defBody sd)
noncomputable def callF (G : Gs) (T : List FE) : Nat → Nat → Fn
  | 0 => fun _ _ _ => .no
  | n + 1 => fun i => match T[i]? with
    | some fe => runF fe.N.length fe.fzd (bodyOf G (callF G T n) fe.sd fe.N)
    | none => fun _ _ => .no
theorem callF_at {G : Gs} {T : List FE} {n i : Nat} {fe : FE} (h : T[i]? = some fe) : callF G T (n + 1) i = runF fe.N.length fe.fzd (bodyOf G (callF G T n) fe.sd fe.N) := by
  show (match T[i]? with
    | some fe => runF fe.N.length fe.fzd (bodyOf G (callF G T n) fe.sd fe.N)
    | none => fun _ _ => .no) = _
  rw [h]
def lev (n : Nat) : Nat := 2 * n + 1
structure TOk (C : Cf) (G : Gs) (T : List FE) : Prop where
  con : ∀ x d, G.con x = some d → ∃ u v, C.mg x = some u ∧ RelV v u ∧ ∀ n μ H, Dat C.K n μ H v d
  nob : ∀ x, x ∈ G.nob → C.mg x = none
  fns : ∀ x i m, G.fn x = some (i, m) → ∃ fe, T[i]? = some fe ∧ fe.name = x ∧ fe.ps.length = m
  ok : ∀ (i : Nat) fe, T[i]? = some fe → ∃ f fd, C.mg fe.name = some (.ref f) ∧ Fun C.K fe.name fe.name fe.sd f fd ∧ Binds C.K fd fe.ps [] ∧ FnScope fe.N fe.ps (defScope fe.sd)
section
variable {C : Cf} {G : Gs} {T : List FE}
theorem none_ok {f : Addr} {fd : FuncData} {ps : List Str} {k : Nat} : FnOk C.P C.w C.K C.mg C.base (L2.CX C.P C.w) k f fd ps (SpOf C ps.length fun _ _ => .no) :=
  ⟨fun vs H Q E h => by
    obtain ⟨_, _, _, _, dl, hk, _⟩ := h
    rw [dl.length]; exact hk, fun A outer s H args us vs Q E _ _ _ _ h => by
    obtain ⟨_, _, _, _, _, _, h⟩ := h
    exact False.elim h⟩
theorem tab_ok (t : TOk C G T) : ∀ n : Nat, GOk C G (callF G T n) (lev n)
  | 0 => ⟨t.con, fun x i m h => by
      obtain ⟨fe, h1, h2, h3⟩ := t.fns x i m h
      obtain ⟨f, fd, k1, k2, k3, k4⟩ := t.ok i fe h1
      subst h2 h3
      exact ⟨f, fd, fe.ps, k1, k2.kp, k3, rfl, none_ok⟩, t.nob⟩
  | n + 1 => ⟨t.con, fun x i m h => by
      obtain ⟨fe, h1, h2, h3⟩ := t.fns x i m h
      obtain ⟨f, fd, k1, k2, k3, k4⟩ := t.ok i fe h1
      subst h2 h3
      refine ⟨f, fd, fe.ps, k1, k2.kp, k3, rfl, ?_⟩
      rw [callF_at h1]
      have ih := tab_ok t n
      exact (fn_ok k2 k4 fun X W g hN hs hf => blk_ok (rec_ok ih 60) ih 20 _ X W _ g ⟨hN, hs, fun x _ => by rw [hf]⟩).mono (by unfold lev; omega), t.nob⟩
theorem fn_at (t : TOk C G T) {n i : Nat} {fe : FE} (h1 : T[i]? = some fe) {f : Addr} {fd : FuncData} (F : Fun C.K fe.name fe.name fe.sd f fd) (S : FnScope fe.N fe.ps (defScope fe.sd)) : FnOk C.P C.w C.K C.mg C.base (L2.CX C.P C.w) (lev (n + 1)) f fd fe.ps (SpOf C fe.ps.length (callF G T (n + 1) i)) := by
  rw [callF_at h1]
  have ih := tab_ok t n
  exact (fn_ok F S fun X W g hN hs hf => blk_ok (rec_ok ih 60) ih 20 _ X W _ g ⟨hN, hs, fun x _ => by rw [hf]⟩).mono (by unfold lev; omega)
end
/-! ### lists of facts -/
inductive AllL {α : Type} (P : α → Prop) : List α → Prop
  | nil : AllL P []
  | cons {a : α} {l : List α} (h : P a) (t : AllL P l) : AllL P (a :: l)
theorem AllL.mem {α : Type} {P : α → Prop} : ∀ {l : List α} {a : α}, AllL P l → a ∈ l → P a
  | _, _, .nil, h => by simp at h
  | _, _, .cons h t, q => by
    rcases List.mem_cons.mp q with rfl | q
    · exact h
    · exact t.mem q
theorem lookup_mem {α β : Type} [BEq α] [LawfulBEq α] : ∀ {l : List (α × β)} {x : α} {d : β}, l.lookup x = some d → (x, d) ∈ l
  | [], _, _, h => by cases h
  | (y, e) :: r, x, d, h => by
    rw [List.lookup_cons] at h
    split at h
    · rename_i q
      cases h
      have := eq_of_beq q
      subst this
      exact List.mem_cons_self ..
    · exact List.mem_cons_of_mem _ (lookup_mem h)
/-! ### the law's end -/
theorem DatL.ints {K : PySem.W.Frag} {n : Nat} {μ : Mu} {H : Hp} : ∀ ns : List Int, DatL K n μ H (ns.map V.int) (ns.map D.int)
  | [] => .nil
  | i :: r => .cons (.int i) (DatL.ints r)
/-- the law's promise: True comes out -/
def spLaw (K : PySem.W.Frag) : Sp := fun vs H Q _ => ∃ (a : Addr) (ns : List Int), vs = [.ref a] ∧ ns.length ≤ 63 ∧ Only H ∧ SqL K H a (ns.map V.int) ∧ ∀ H', Q (.bl true) H'
theorem law_sp {C : Cf} {f : Fn} (hf : ∀ ns : List Int, ns.length ≤ 63 → ∃ st', f [.frz (ns.map D.int)] [] = .ok (.bl true) st') {vs : List V} {H : Hp} {Q : VK} {E : XK} (h : spLaw C.K vs H Q E) : SpOf C 1 f vs H Q E := by
  obtain ⟨a, ns, rfl, hl, hO, hS, hq⟩ := h
  obtain ⟨st', hf⟩ := hf ns hl
  refine ⟨⟨fun _ => 0, fun _ => False⟩, [], [.frz (ns.map D.int)], ⟨fun i j hi => absurd hi (Nat.not_lt_zero _), fun i o q => (by simp at q), fun i hi => absurd hi (Nat.not_lt_zero _), fun a z => z.elim⟩, .cons (.frz ?_ (by rw [List.length_map]; exact Nat.le_trans hl (by decide)) (DatL.ints ns)) .nil, rfl, ?_⟩
  · rcases hS with (h | ⟨o, h⟩) | h
    · rcases hO a with q | ⟨o, xs, q⟩
      · rw [h] at q; cases q
      · rw [h] at q; cases q
    · exact .inl ⟨⟨o, h⟩, fun z => z⟩
    · exact .inr h
  · rw [hf]
    intro v μ' H' _ _ d
    cases d
    exact hq H'
theorem cx_end {P : Program} {w : World} (H : Hp) (s : Shared) (e : Value) (s' : Shared) (h : L2.CX P w [] H s (fun _ _ _ => False) e s') : False := by
  obtain ⟨_, _, _, _, _, _, _, _, _, _, _, _, z⟩ := h
  exact z
theorem walk {l : PySem.W.OpenLaw} {q : Program} {loose : List Str} {XP : (Str → Option Value) → Heap → Prop} {YP : World → Heap → Prop} {d : DefRec} {K : Params → PySem.W.Frag} {n : Nat} {x : Str} (hn : l.most = some 63) (hdf : d.params.defaults = []) (hr : Room (lev n) callerA)
    (hY : ∀ (w : World) (h : Heap), YP w h → (K w.params).In h)
    (F : ∀ (w : World) (mg : Str → Option Value) (fa : Addr) (h : Heap), (K w.params).In h → h.Ns mainGlobals mg → mg d.name = some (.ref fa) →
      ∃ fd : FuncData, (∀ (s : Shared) (u : Value), BindsTo s fd ⟨[u], []⟩ [(x, u)]) ∧ ∀ base : Heap, (K w.params).In base → base.Ns mainGlobals mg → FnOk l.prog w (K w.params) mg base (L2.CX l.prog w) (lev n) fa fd [x] (spLaw (K w.params))) :
    PySem.W.WalkO q loose XP YP l.row.toRowW d [] (fun f vs => PySem.call f vs) :=
  L2.walk_of (n := 63) (k := lev n) (x := x) (CX := fun w => L2.CX l.prog w) (sp := fun w => spLaw (K w.params)) hn (by decide) hdf hr hY F (fun _ _ a ns hl hO hS => ⟨a, ns, rfl, hl, hO, hS, fun _ => rfl⟩) fun w H s e s' z => cx_end H s e s' z
/-- a tuple of texts of the module -/
theorem con_tup {K : PySem.W.Frag} {a : Addr} {o : Obj} {its : Array Value} {k : Nat} {vs : List V} {ds : List D} (hk : K.lookup a = some o) (hc : o.cls = .type "tuple") (hd : o.data = .seq its k) (hz : its.size ≤ sizeLine) (hv : Vals vs its.toList) (hl : ds.length ≤ sizeLine) (hs : ∀ n μ H, DatL K n μ H vs ds) :
    ∀ n μ H, Dat K n μ H (.ref a) (.tup ds) := fun n μ H => .tup (.inr ⟨o, its, k, hk, hc, hd, hz, hv⟩) hl (hs n μ H)
end Mi
/-! Mi17: running the functions of data. -/
namespace Mi
open PySem L2

section
variable {ρ : Rho} {st : Store} {α β : Type}
@[simp] theorem O_bind_ok (a : α) (st : Store) (k : α → Store → O β) : (O.ok a st).bind k = k a st := rfl
@[simp] theorem O_bind_no (k : α → Store → O β) : (O.no : O α).bind k = .no := rfl
@[simp] theorem O_bind_ex (x : Xc) (st : Store) (k : α → Store → O β) : (O.ex x st : O α).bind k = .ex x st := rfl
@[simp] theorem O_strict_ok (a : α) (st : Store) : (O.ok a st).strict = .ok a st := rfl
@[simp] theorem O_toS_ok (a : α) (st : Store) (ρ : Rho) (k : α → Store → OS) : (O.ok a st).toS ρ k = k a st := rfl
@[simp] theorem O_toS_no (ρ : Rho) (k : α → Store → OS) : (O.no : O α).toS ρ k = .no := rfl
@[simp] theorem OS_turn_nx (ρ : Rho) (st : Store) (k : MS) : (OS.nx ρ st).turn k = k ρ st := rfl
@[simp] theorem OS_turn_ct (ρ : Rho) (st : Store) (k : MS) : (OS.ct ρ st).turn k = k ρ st := rfl
@[simp] theorem OS_turn_rt (d : D) (st : Store) (k : MS) : (OS.rt d st).turn k = .rt d st := rfl
@[simp] theorem OS_turn_bk (ρ : Rho) (st : Store) (k : MS) : (OS.bk ρ st).turn k = .nx ρ st := rfl
theorem sSeq_nx {a b : MS} {ρ1 : Rho} {st1 : Store} (h : a ρ st = .nx ρ1 st1) : sSeq a b ρ st = b ρ1 st1 := by unfold sSeq; rw [h]
theorem sSeq_rt {a b : MS} {d : D} {st1 : Store} (h : a ρ st = .rt d st1) : sSeq a b ρ st = .rt d st1 := by unfold sSeq; rw [h]
theorem mC_run (d : D) : mC d ρ st = .ok d st := rfl
theorem mVar_run {i : Nat} {d : D} (h : ρ[i]? = some (some d)) : mVar i ρ st = .ok d st := by unfold mVar; rw [h]
theorem mNil_run : mNil ρ st = .ok [] st := rfl
theorem mCons_run {a : M D} {r : M (List D)} {d : D} {ds : List D} {st1 st2 : Store} (h : a ρ st = .ok d st1) (h2 : r ρ st1 = .ok ds st2) : mCons a r ρ st = .ok (d :: ds) st2 := by
  unfold mCons; rw [h]; show (r ρ st1).bind _ = _; rw [h2]; rfl
/-- pure lists of turns -/
theorem lcGo_map {t : Tgt} {c : M Bool} {e : M D} {enc : α → D} {p : α → Bool} {f : α → D} : ∀ {xs : List α}, (∀ x ∈ xs, ∃ ρ1, bindT t (enc x) ρ = some ρ1 ∧ c ρ1 st = .ok (p x) st ∧ (p x = true → e ρ1 st = .ok (f x) st)) → lcGo ρ t c e (xs.map enc) st = .ok ((xs.filter p).map f) st
  | [], _ => rfl
  | x :: r, h => by
    obtain ⟨ρ1, h1, h2, h3⟩ := h x (List.mem_cons_self ..)
    have ih := lcGo_map (xs := r) fun y hy => h y (List.mem_cons_of_mem _ hy)
    rw [List.map_cons]
    unfold lcGo
    rw [h1]
    dsimp only
    rw [h2]
    simp only [O_strict_ok, O_bind_ok]
    cases q : p x with
    | true =>
      rw [if_pos rfl, h3 q]
      simp only [O_strict_ok, O_bind_ok]
      rw [ih, List.filter_cons, if_pos q]
      simp only [O_bind_ok, List.map_cons]
    | false =>
      rw [if_neg Bool.false_ne_true, ih, List.filter_cons, if_neg (by rw [q]; exact Bool.false_ne_true)]
theorem mLc_map {it : M (List D)} {t : Tgt} {vs : List Nat} {c : M Bool} {e : M D} {enc : α → D} {p : α → Bool} {f : α → D} {xs : List α} {st1 : Store} (hi : it ρ st = .ok (xs.map enc) st1) (hl : xs.length ≤ sizeLine)
    (h : ∀ x ∈ xs, ∃ ρ1, bindT t (enc x) (wipeD ρ vs) = some ρ1 ∧ c ρ1 st1 = .ok (p x) st1 ∧ (p x = true → e ρ1 st1 = .ok (f x) st1)) : mLc false it t vs c e ρ st = .ok (.lst ((xs.filter p).map f)) st1 := by
  unfold mLc
  rw [hi]
  simp only [O_bind_ok]
  rw [lcGo_map h]
  simp only [O_bind_ok]
  unfold mkL
  rw [if_pos (by rw [List.length_map]; exact Nat.le_trans (List.length_filter_le _ _) hl)]
  rfl
/-- .. without a test -/
theorem mLc_all {it : M (List D)} {t : Tgt} {vs : List Nat} {e : M D} {enc : α → D} {f : α → D} {xs : List α} {st1 : Store} (hi : it ρ st = .ok (xs.map enc) st1) (hl : xs.length ≤ sizeLine)
    (h : ∀ x ∈ xs, ∃ ρ1, bindT t (enc x) (wipeD ρ vs) = some ρ1 ∧ e ρ1 st1 = .ok (f x) st1) : mLc false it t vs mYes e ρ st = .ok (.lst (xs.map f)) st1 := by
  have := mLc_map (p := fun _ => true) (f := f) (c := mYes) hi hl fun x hx => by
    obtain ⟨ρ1, h1, h2⟩ := h x hx
    exact ⟨ρ1, h1, rfl, fun _ => h2⟩
  rw [this, List.filter_eq_self.mpr fun _ _ => rfl]
theorem runF_pure {n : Nat} {m : MS} {ds : List D} {d : D} (h : m (startD n ds) st = .rt d st) (hf : fz 64 st.length st d = some d) : runF n true m ds st = .ok d st := by
  unfold runF
  rw [h]
  show retF true st d st = _
  unfold retF
  rw [if_pos rfl, if_pos List.take_length, hf]
theorem runF_cut {n : Nat} {m : MS} {ds : List D} {d d' : D} {ext : Store} (h : m (startD n ds) st = .rt d (st ++ ext)) (hf : fz 64 st.length (st ++ ext) d = some d') : runF n true m ds st = .ok d' st := by
  unfold runF
  rw [h]
  show retF true st d (st ++ ext) = _
  unfold retF
  rw [if_pos rfl, if_pos (by simp), hf]
theorem runF_keep {n : Nat} {m : MS} {ds : List D} {d : D} {st' : Store} (h : m (startD n ds) st = .rt d st') : runF n false m ds st = .ok d st' := by
  unfold runF
  rw [h]
  rfl
/-- a loop, by what stays true -/
theorem forGo_inv {t : Tgt} {b : MS} (I : List D → Rho → Store → Prop) (step : ∀ d r ρ st, I (d :: r) ρ st → ∃ ρ1 ρ' st', bindT t d ρ = some ρ1 ∧ (b ρ1 st = .nx ρ' st' ∨ b ρ1 st = .ct ρ' st') ∧ I r ρ' st') : ∀ {ds : List D} {ρ : Rho} {st : Store}, I ds ρ st → ∃ ρ' st', forGo t b ds ρ st = .nx ρ' st' ∧ I [] ρ' st'
  | [], ρ, st, h => ⟨ρ, st, rfl, h⟩
  | d :: r, ρ, st, h => by
    obtain ⟨ρ1, ρ', st', h1, h2, h3⟩ := step d r ρ st h
    obtain ⟨ρ2, st2, h4, h5⟩ := forGo_inv I step h3
    refine ⟨ρ2, st2, ?_, h5⟩
    unfold forGo
    rw [h1]
    dsimp only
    rcases h2 with h2 | h2 <;> rw [h2] <;> exact h4
end
end Mi
/-! Mi18: each combinator's run, as rules of rewriting. -/
namespace Mi
open PySem L2
section
variable {ρ : Rho} {st : Store} {α β : Type}
@[simp] theorem r_var0 (d : D) : mVar 0 (some d :: ρ) st = .ok d st := rfl
@[simp] theorem r_varS (i : Nat) (x : Option D) : mVar (i + 1) (x :: ρ) st = mVar i ρ st := by
  unfold mVar; rw [List.getElem?_cons_succ]
@[simp] theorem r_C (d : D) : mC d ρ st = .ok d st := rfl
@[simp] theorem r_nil : mNil ρ st = .ok [] st := rfl
@[simp] theorem r_cons (a : M D) (r : M (List D)) : mCons a r ρ st = (a ρ st).bind fun x st1 => (r ρ st1).bind fun xs st2 => .ok (x :: xs) st2 := rfl
@[simp] theorem r_bin (f : D → D → Store → O D) (a b : M D) : mBin f a b ρ st = (a ρ st).bind fun x st1 => (b ρ st1).bind fun y st2 => f x y st2 := rfl
@[simp] theorem r_un (f : D → Store → O D) (a : M D) : mUn f a ρ st = (a ρ st).bind f := rfl
@[simp] theorem r_app (f : List D → Store → O D) (a : M (List D)) : mApp f a ρ st = (a ρ st).bind f := rfl
@[simp] theorem r_meth (T : String) (f : D → List D → Store → O D) (o : M D) (a : M (List D)) : mMeth T f o a ρ st = (o ρ st).bind fun x st1 => if tyD T x st1 = true then (a ρ st1).bind fun xs st2 => f x xs st2 else .no := rfl
@[simp] theorem r_lst (m : Bool) (a : M (List D)) : mLst m a ρ st = (a ρ st).bind (mkL m) := rfl
@[simp] theorem r_tup (a : M (List D)) : mTup a ρ st = (a ρ st).bind mkT := rfl
@[simp] theorem r_tru (a : M D) : mTru a ρ st = (a ρ st).bind fun d st1 => match dTru d st1 with
  | some b => .ok b st1
  | none => .no := rfl
@[simp] theorem r_test (a : M D) : mTest a ρ st = (a ρ st).bind fun d st1 => match d with
  | .bl b => .ok b st1
  | _ => .no := rfl
@[simp] theorem r_yes : mYes ρ st = .ok true st := rfl
@[simp] theorem r_notT (a : M Bool) : mNotT a ρ st = (a ρ st).bind fun x st1 => .ok (!x) st1 := rfl
@[simp] theorem r_andT (a b : M Bool) : mAndT a b ρ st = (a ρ st).bind fun x st1 => if x = true then b ρ st1 else .ok false st1 := rfl
@[simp] theorem r_orT (a b : M Bool) : mOrT a b ρ st = (a ρ st).bind fun x st1 => if x = true then .ok true st1 else b ρ st1 := rfl
@[simp] theorem r_ifE (c : M Bool) (a b : M D) : mIfE c a b ρ st = (c ρ st).bind fun x st1 => if x = true then a ρ st1 else b ρ st1 := rfl
@[simp] theorem r_ifT (c : M Bool) (a b : M Bool) : mIfT c a b ρ st = (c ρ st).bind fun x st1 => if x = true then a ρ st1 else b ρ st1 := rfl
@[simp] theorem r_andV (a b : M D) : mAndV a b ρ st = (a ρ st).bind fun x st1 => match dTru x st1 with
  | some true => b ρ st1
  | some false => .ok x st1
  | none => .no := rfl
@[simp] theorem r_orV (a b : M D) : mOrV a b ρ st = (a ρ st).bind fun x st1 => match dTru x st1 with
  | some true => .ok x st1
  | some false => b ρ st1
  | none => .no := rfl
@[simp] theorem r_notV (a : M D) : mNotV a ρ st = (a ρ st).bind fun x st1 => match dTru x st1 with
  | some b => .ok (.bl (!b)) st1
  | none => .no := rfl
@[simp] theorem r_chain (f g : D → D → Store → O D) (a b c : M D) : mChain f g a b c ρ st = (a ρ st).bind fun x st1 => (b ρ st1).bind fun y st2 => (f x y st2).bind fun z st3 => match z with
  | .bl true => (c ρ st3).bind fun w st4 => g y w st4
  | .bl false => .ok (.bl false) st3
  | _ => .no := rfl
@[simp] theorem r_part (a : M D) : mPart a ρ st = (a ρ st).bind fun d st1 => match d with
  | .int i => .ok (some i) st1
  | _ => .no := rfl
@[simp] theorem r_nopart : mNoPart ρ st = .ok none st := rfl
@[simp] theorem r_sl (m : Bool) (a : M D) (lo hi : M (Option Int)) : mSl m a lo hi ρ st = (a ρ st).bind fun x st1 => (lo ρ st1).bind fun l st2 => (hi ρ st2).bind fun h st3 => dSl m x l h st3 := rfl
@[simp] theorem r_items (a : M D) : mItems a ρ st = (a ρ st).bind fun d st1 => match itemsD d with
  | some xs => .ok xs st1
  | none => .no := rfl
@[simp] theorem r_range1 (a : M D) : mRange1 a ρ st = (a ρ st).bind fun d st1 => match d with
  | .int j => if j ≤ sizeLine ∧ -(2 ^ 62) ≤ j then .ok (rangeD 0 j.toNat) st1 else .no
  | _ => .no := rfl
@[simp] theorem r_isi (Ts : List String) (a : M D) : mIsi Ts a ρ st = (a ρ st).bind fun d st1 => match tyOfD d st1 with
  | some t => .ok (.bl (Ts.any (subT t))) st1
  | none => .no := rfl
@[simp] theorem r_call (k : Nat) (f : Fn) (a : M (List D)) : mCall k f a ρ st = (a ρ st).bind fun ds st1 => if ds.length = k then f ds st1 else .no := rfl
@[simp] theorem r_asg (e : M D) (t : Tgt) : sAsg e t ρ st = (e ρ st).toS ρ fun d st1 => match bindT t d ρ with
  | some ρ1 => .nx ρ1 st1
  | none => .no := rfl
@[simp] theorem r_expr (e : M D) : sExpr e ρ st = (e ρ st).toS ρ fun _ st1 => .nx ρ st1 := rfl
@[simp] theorem r_ret (e : M D) : sRet e ρ st = (e ρ st).toS ρ fun d st1 => .rt d st1 := rfl
@[simp] theorem r_if (c : M Bool) (a b : MS) : sIf c a b ρ st = (c ρ st).toS ρ fun x st1 => if x = true then a ρ st1 else b ρ st1 := rfl
@[simp] theorem r_snil : sNil ρ st = .nx ρ st := rfl
def OS.seq (o : OS) (b : MS) : OS := match o with
  | .nx ρ st => b ρ st
  | o => o
theorem r_seq (a b : MS) : sSeq a b ρ st = (a ρ st).seq b := by
  unfold sSeq OS.seq
  cases a ρ st <;> rfl
@[simp] theorem seq_nx (b : MS) : (OS.nx ρ st).seq b = b ρ st := rfl
@[simp] theorem seq_rt (d : D) (b : MS) : (OS.rt d st).seq b = .rt d st := rfl
@[simp] theorem seq_no (b : MS) : (OS.no).seq b = .no := rfl
@[simp] theorem bindT_one (i : Nat) (d : D) : bindT (.one i) d ρ = some (ρ.set i (some d)) := rfl
@[simp] theorem start1 (n : Nat) (ds : List D) : startD n ds = ds.map some ++ List.replicate (n - ds.length) none := rfl
@[simp] theorem wipe1 (v : Nat) : wipeD ρ [v] = ρ.set v none := rfl
theorem eqD_int (i j : Int) : eqD (.int i) (.int j) = decide (i = j) := by
  show (i == j) = _
  rfl
theorem eqD_bl (i j : Bool) : eqD (.bl i) (.bl j) = decide (i = j) := by cases i <;> cases j <;> rfl
theorem eqD_str (i j : Str) : eqD (.str i) (.str j) = decide (i = j) := by
  show (i == j) = _
  by_cases h : i = j
  · subst h; simp
  · rw [decide_eq_false h]; simpa using h
@[simp] theorem e_ints (i j : Int) (n : Bool) : dEq n (.int i) (.int j) st = .ok (.bl (sgn n (decide (i = j)))) st := by
  rw [← eqD_int]; cases n <;> rfl
@[simp] theorem e_bls (i j : Bool) (n : Bool) : dEq n (.bl i) (.bl j) st = .ok (.bl (sgn n (decide (i = j)))) st := by
  rw [← eqD_bl]; cases n <;> rfl
@[simp] theorem e_strs (i j : Str) (n : Bool) : dEq n (.str i) (.str j) st = .ok (.bl (sgn n (decide (i = j)))) st := by
  rw [← eqD_str]; cases n <;> rfl
@[simp] theorem sgnT (b : Bool) : sgn true b = !b := rfl
@[simp] theorem sgnF (b : Bool) : sgn false b = b := rfl
@[simp] theorem l_ints (i j : Int) : dLe (.int i) (.int j) st = .ok (.bl (decide (i ≤ j))) st := rfl
@[simp] theorem a_ints (m : Bool) (i j : Int) : dAdd m (.int i) (.int j) st = .ok (.int (i + j)) st := rfl
@[simp] theorem s_ints (i j : Int) : dSub (.int i) (.int j) st = .ok (.int (i - j)) st := rfl
@[simp] theorem tru_bl (b : Bool) : dTru (.bl b) st = some b := rfl
@[simp] theorem len_str (s : Str) : dLen [.str s] st = .ok (.int s.length) st := rfl
@[simp] theorem ty_str (s : Str) : tyOfD (.str s) st = some "str" := rfl
@[simp] theorem ty_int (s : Int) : tyOfD (.int s) st = some "int" := rfl
@[simp] theorem ty_bl (s : Bool) : tyOfD (.bl s) st = some "bool" := rfl
@[simp] theorem ty_non : tyOfD .non st = some "NoneType" := rfl
@[simp] theorem ty_lst (s : List D) : tyOfD (.lst s) st = some "list" := rfl
@[simp] theorem ty_tup (s : List D) : tyOfD (.tup s) st = some "tuple" := rfl
theorem range_ok {a : M D} {j : Int} {st1 : Store} (h : a ρ st = .ok (.int j) st1) (h0 : 0 ≤ j) (h1 : j ≤ 16777216) : mRange1 a ρ st = .ok (rangeD 0 j.toNat) st1 := by
  rw [r_range1, h]
  show (if j ≤ sizeLine ∧ -(2 ^ 62) ≤ j then O.ok (rangeD 0 j.toNat) st1 else .no) = _
  rw [if_pos ⟨by unfold sizeLine; omega, by omega⟩]
/-! the same, step by step -/
section
variable {a b : M D} {d x y : D} {st1 st2 : Store}
theorem run_bin {f : D → D → Store → O D} {r : O D} (ha : a ρ st = .ok x st1) (hb : b ρ st1 = .ok y st2) (hf : f x y st2 = r) : mBin f a b ρ st = r := by rw [r_bin, ha, O_bind_ok, hb, O_bind_ok, hf]
theorem run_un {f : D → Store → O D} {r : O D} (ha : a ρ st = .ok x st1) (hf : f x st1 = r) : mUn f a ρ st = r := by rw [r_un, ha, O_bind_ok, hf]
theorem run_app {f : List D → Store → O D} {as : M (List D)} {ds : List D} {r : O D} (ha : as ρ st = .ok ds st1) (hf : f ds st1 = r) : mApp f as ρ st = r := by rw [r_app, ha, O_bind_ok, hf]
theorem run_args1 (ha : a ρ st = .ok x st1) : mCons a mNil ρ st = .ok [x] st1 := by rw [r_cons, ha]; rfl
theorem run_cons {as : M (List D)} {ds : List D} (ha : a ρ st = .ok x st1) (hs : as ρ st1 = .ok ds st2) : mCons a as ρ st = .ok (x :: ds) st2 := by rw [r_cons, ha, O_bind_ok, hs]; rfl
theorem run_app1 {f : List D → Store → O D} {r : O D} (ha : a ρ st = .ok x st1) (hf : f [x] st1 = r) : mApp f (mCons a mNil) ρ st = r := run_app (run_args1 ha) hf
theorem run_meth {T : String} {f : D → List D → Store → O D} {as : M (List D)} {ds : List D} {r : O D} (ha : a ρ st = .ok x st1) (ht : tyD T x st1 = true) (hs : as ρ st1 = .ok ds st2) (hf : f x ds st2 = r) : mMeth T f a as ρ st = r := by rw [r_meth, ha, O_bind_ok, if_pos ht, hs, O_bind_ok, hf]
theorem run_call {k : Nat} {f : Fn} {as : M (List D)} {ds : List D} {r : O D} (hs : as ρ st = .ok ds st1) (hk : ds.length = k) (hf : f ds st1 = r) : mCall k f as ρ st = r := by rw [r_call, hs, O_bind_ok, if_pos hk, hf]
theorem run_call1 {f : Fn} {r : O D} (ha : a ρ st = .ok x st1) (hf : f [x] st1 = r) : mCall 1 f (mCons a mNil) ρ st = r := run_call (run_args1 ha) rfl hf
theorem run_call2 {f : Fn} {r : O D} (ha : a ρ st = .ok x st1) (hb : b ρ st1 = .ok y st2) (hf : f [x, y] st2 = r) : mCall 2 f (mCons a (mCons b mNil)) ρ st = r := run_call (run_cons ha (run_args1 hb)) rfl hf
theorem run_test {v : Bool} (ha : a ρ st = .ok (.bl v) st1) : mTest a ρ st = .ok v st1 := by rw [r_test, ha]; rfl
theorem run_tru {v : Bool} (ha : a ρ st = .ok x st1) (hv : dTru x st1 = some v) : mTru a ρ st = .ok v st1 := by rw [r_tru, ha, O_bind_ok, hv]
theorem run_notT {c : M Bool} {v : Bool} (h : c ρ st = .ok v st1) : mNotT c ρ st = .ok (!v) st1 := by rw [r_notT, h]; rfl
theorem run_orF {c e : M Bool} {r : O Bool} (h : c ρ st = .ok false st1) (h2 : e ρ st1 = r) : mOrT c e ρ st = r := by rw [r_orT, h]; exact h2
theorem run_orT {c e : M Bool} (h : c ρ st = .ok true st1) : mOrT c e ρ st = .ok true st1 := by rw [r_orT, h]; rfl
theorem run_andVT {r : O D} (h : a ρ st = .ok x st1) (ht : dTru x st1 = some true) (h2 : b ρ st1 = r) : mAndV a b ρ st = r := by rw [r_andV, h, O_bind_ok, ht]; exact h2
theorem run_andVF (h : a ρ st = .ok x st1) (ht : dTru x st1 = some false) : mAndV a b ρ st = .ok x st1 := by rw [r_andV, h, O_bind_ok, ht]
theorem run_notV {v : Bool} (h : a ρ st = .ok x st1) (ht : dTru x st1 = some v) : mNotV a ρ st = .ok (.bl (!v)) st1 := by rw [r_notV, h, O_bind_ok, ht]
theorem run_ifET {c : M Bool} {r : O D} (h : c ρ st = .ok true st1) (h2 : a ρ st1 = r) : mIfE c a b ρ st = r := by rw [r_ifE, h]; exact h2
theorem run_ifEF {c : M Bool} {r : O D} (h : c ρ st = .ok false st1) (h2 : b ρ st1 = r) : mIfE c a b ρ st = r := by rw [r_ifE, h]; exact h2
theorem run_lst {as : M (List D)} {ds : List D} (hs : as ρ st = .ok ds st1) (hl : ds.length ≤ sizeLine) : mLst false as ρ st = .ok (.lst ds) st1 := by
  rw [r_lst, hs, O_bind_ok]; unfold mkL; rw [if_pos hl, if_neg Bool.false_ne_true]
theorem run_seq {p q : MS} {ρ1 : Rho} {r : OS} (h : p ρ st = .nx ρ1 st1) (h2 : q ρ1 st1 = r) : sSeq p q ρ st = r := by rw [sSeq_nx h, h2]
theorem run_asg {i : Nat} (h : a ρ st = .ok d st1) : sAsg a (.one i) ρ st = .nx (ρ.set i (some d)) st1 := by rw [r_asg, h]; rfl
theorem run_expr (h : a ρ st = .ok d st1) : sExpr a ρ st = .nx ρ st1 := by rw [r_expr, h]; rfl
theorem run_ret (h : a ρ st = .ok d st1) : sRet a ρ st = .rt d st1 := by rw [r_ret, h]; rfl
theorem run_ifF {c : M Bool} {p q : MS} {r : OS} (h : c ρ st = .ok false st1) (h2 : q ρ st1 = r) : sIf c p q ρ st = r := by rw [r_if, h]; exact h2
theorem run_ifT {c : M Bool} {p q : MS} {r : OS} (h : c ρ st = .ok true st1) (h2 : p ρ st1 = r) : sIf c p q ρ st = r := by rw [r_if, h]; exact h2
theorem run_skip {c : M Bool} {p : MS} (h : c ρ st = .ok false st1) : sIf c p sNil ρ st = .nx ρ st1 := run_ifF h rfl
end
end
end Mi
namespace K01
open PySem L2 Mi
/-! ### the text (printed by gen.py) -/
def top (i : Nat) : Stmt := PySem.Challenge.pw_worldtale_k01_words.main.body.getD i (.Pass ⟨0, 0, 0, 0⟩)
abbrev s_is_whole : Stmt := top 8
abbrev s_is_among : Stmt := top 9
abbrev s_is_word : Stmt := top 10
abbrev s_is_reserved : Stmt := top 11
abbrev s_is_name : Stmt := top 12
abbrev s_digit_of : Stmt := top 13
abbrev s_words_of : Stmt := top 14
abbrev s__law_mixed : Stmt := top 16
abbrev s__law_reserved : Stmt := top 17
abbrev s__law_written : Stmt := top 18
abbrev s__law_small : Stmt := top 19
abbrev s__law_one : Stmt := top 20
abbrev s__law_row : Stmt := top 21
abbrev s_law : Stmt := top 22
def c_LETTERS : D := (.str "abcdefghijklmnopqrstuvwxyz")
def c_FIGURES : D := (.str "0123456789")
def c_MOST_LETTERS : D := (.int 8)
def c_VERBS : D := (.tup [(.str "take"), (.str "drop"), (.str "put"), (.str "open"), (.str "shut"), (.str "wear"), (.str "doff"), (.str "look"), (.str "go"), (.str "list"), (.str "wait"), (.str "undo")])
def c_DIRECTIONS : D := (.tup [(.str "down"), (.str "east"), (.str "north"), (.str "south"), (.str "up"), (.str "west")])
def c_SMALL : D := (.tup [(.str "the"), (.str "all"), (.str "but"), (.str "and"), (.str "then"), (.str "it"), (.str "them"), (.str "in"), (.str "on"), (.str "is"), (.str "at"), (.str "you"), (.str "with"), (.str "not"), (.str "nowhere")])
def c_OTHERS : D := (.tup [(.str "always"), (.str "any"), (.str "say"), (.str "set"), (.str "move"), (.str "stop")])
def conT : List (Str × D) := [("LETTERS", c_LETTERS), ("FIGURES", c_FIGURES), ("MOST_LETTERS", c_MOST_LETTERS), ("VERBS", c_VERBS), ("DIRECTIONS", c_DIRECTIONS), ("SMALL", c_SMALL), ("OTHERS", c_OTHERS)]
def fnT : List (Str × Nat × Nat) := [("is_whole", (0, 1)), ("is_among", (1, 3)), ("is_word", (2, 1)), ("is_reserved", (3, 1)), ("is_name", (4, 1)), ("digit_of", (5, 1)), ("words_of", (6, 1)), ("_law_mixed", (7, 2)), ("_law_reserved", (8, 0)), ("_law_written", (9, 1)), ("_law_small", (10, 1)), ("_law_one", (11, 1)), ("_law_row", (12, 2)), ("law", (13, 1))]
def nobT : List Str := ["len", "list", "int", "str", "sum", "all", "isinstance", "range", "bool"]
def chgT : List (Nat × Nat) := [(28, 12)]
def Gx : Gs := ⟨fun x => conT.lookup x, fun x => fnT.lookup x, nobT, fun l c => chgT.contains (l, c)⟩
def N_is_whole : List Str := ["thing"]
def p_is_whole : List Str := ["thing"]
def N_is_among : List Str := ["thing", "least", "most"]
def p_is_among : List Str := ["thing", "least", "most"]
def N_is_word : List Str := ["thing", "sign"]
def p_is_word : List Str := ["thing"]
def N_is_reserved : List Str := ["thing"]
def p_is_reserved : List Str := ["thing"]
def N_is_name : List Str := ["thing"]
def p_is_name : List Str := ["thing"]
def N_digit_of : List Str := ["thing"]
def p_digit_of : List Str := ["thing"]
def N_words_of : List Str := ["row", "found"]
def p_words_of : List Str := ["row"]
def N__law_mixed : List Str := ["_law_cell", "_law_k"]
def p__law_mixed : List Str := ["_law_cell", "_law_k"]
def N__law_reserved : List Str := ["_law_verbs", "_law_ways", "_law_small_here"]
def p__law_reserved : List Str := []
def N__law_written : List Str := ["_law_number", "_law_letters", "_law_word", "_law_k", "_law_at"]
def p__law_written : List Str := ["_law_number"]
def N__law_small : List Str := ["_law_word", "_law_sign"]
def p__law_small : List Str := ["_law_word"]
def N__law_one : List Str := ["_law_word", "_law_reserved_here", "_law_due", "_law_k", "_law_found"]
def p__law_one : List Str := ["_law_word"]
def N__law_row : List Str := ["_law_words", "_law_number", "_law_row_here", "_law_turn", "_law_found", "_law_at", "_law_parts", "_law_due"]
def p__law_row : List Str := ["_law_words", "_law_number"]
def N_law : List Str := ["_law_script", "_law_words", "_law_cell", "_law_number", "_law_word", "_law_own", "_law_one_here", "_law_odd", "_law_due", "_law_big"]
def p_law : List Str := ["_law_script"]
def Tx : List FE := [
  ⟨"is_whole", s_is_whole, N_is_whole, p_is_whole, true⟩,
  ⟨"is_among", s_is_among, N_is_among, p_is_among, true⟩,
  ⟨"is_word", s_is_word, N_is_word, p_is_word, true⟩,
  ⟨"is_reserved", s_is_reserved, N_is_reserved, p_is_reserved, true⟩,
  ⟨"is_name", s_is_name, N_is_name, p_is_name, true⟩,
  ⟨"digit_of", s_digit_of, N_digit_of, p_digit_of, true⟩,
  ⟨"words_of", s_words_of, N_words_of, p_words_of, false⟩,
  ⟨"_law_mixed", s__law_mixed, N__law_mixed, p__law_mixed, true⟩,
  ⟨"_law_reserved", s__law_reserved, N__law_reserved, p__law_reserved, true⟩,
  ⟨"_law_written", s__law_written, N__law_written, p__law_written, true⟩,
  ⟨"_law_small", s__law_small, N__law_small, p__law_small, true⟩,
  ⟨"_law_one", s__law_one, N__law_one, p__law_one, true⟩,
  ⟨"_law_row", s__law_row, N__law_row, p__law_row, true⟩,
  ⟨"law", s_law, N_law, p_law, true⟩]
/-- is_whole -/
def P_is_whole (call : Nat → Fn) : MS :=
    (sRet (mAndV (mIsi ["int"] (mVar 0)) (mNotV (mIsi ["bool"] (mVar 0)))))
theorem B_is_whole (call : Nat → Fn) : bodyOf Gx call s_is_whole N_is_whole = P_is_whole call := by kernel_rfl
/-- is_among -/
def P_is_among (call : Nat → Fn) : MS :=
    (sRet (mAndV (mCall 1 (call 0) (mCons (mVar 0) mNil)) (mChain dLe dLe (mVar 1) (mVar 0) (mVar 2))))
theorem B_is_among (call : Nat → Fn) : bodyOf Gx call s_is_among N_is_among = P_is_among call := by kernel_rfl
/-- is_word -/
def P_is_word (call : Nat → Fn) : MS :=
    (sSeq (sIf (mOrT (mNotT (mTru (mIsi ["str"] (mVar 0)))) (mNotT (mTest (mChain dLe dLe (mC (.int 1)) (mApp dLen (mCons (mVar 0) mNil)) (mC c_MOST_LETTERS))))) (sRet (mC (.bl false))) sNil)
    (sRet (mApp (dAllAny true) (mCons (mLc false (mItems (mVar 0)) (.one 1) [1] mYes (mBin (dIn false) (mVar 1) (mC c_LETTERS))) mNil))))
theorem B_is_word (call : Nat → Fn) : bodyOf Gx call s_is_word N_is_word = P_is_word call := by kernel_rfl
/-- is_reserved -/
def P_is_reserved (call : Nat → Fn) : MS :=
    (sRet (mAndV (mIsi ["str"] (mVar 0)) (mOrV (mBin (dIn false) (mVar 0) (mC c_VERBS)) (mOrV (mBin (dIn false) (mVar 0) (mC c_DIRECTIONS)) (mOrV (mBin (dIn false) (mVar 0) (mC c_SMALL)) (mBin (dIn false) (mVar 0) (mC c_OTHERS)))))))
theorem B_is_reserved (call : Nat → Fn) : bodyOf Gx call s_is_reserved N_is_reserved = P_is_reserved call := by kernel_rfl
/-- is_name -/
def P_is_name (call : Nat → Fn) : MS :=
    (sRet (mAndV (mCall 1 (call 2) (mCons (mVar 0) mNil)) (mNotV (mCall 1 (call 3) (mCons (mVar 0) mNil)))))
theorem B_is_name (call : Nat → Fn) : bodyOf Gx call s_is_name N_is_name = P_is_name call := by kernel_rfl
/-- digit_of -/
def P_digit_of (call : Nat → Fn) : MS :=
    (sSeq (sIf (mOrT (mNotT (mTru (mIsi ["str"] (mVar 0)))) (mOrT (mTest (mBin (dEq true) (mApp dLen (mCons (mVar 0) mNil)) (mC (.int 1)))) (mTest (mBin (dIn true) (mVar 0) (mC c_FIGURES))))) (sRet (mC .non)) sNil)
    (sRet (mApp dInt (mCons (mVar 0) mNil))))
theorem B_digit_of (call : Nat → Fn) : bodyOf Gx call s_digit_of N_digit_of = P_digit_of call := by kernel_rfl
/-- words_of -/
def P_words_of (call : Nat → Fn) : MS :=
    (sSeq (sIf (mNotT (mTru (mIsi ["str"] (mVar 0)))) (sRet (mC .non)) sNil)
    (sSeq (sAsg (mMeth "str" (dSplit true) (mVar 0) (mCons (mC (.str " ")) mNil)) (.one 1))
    (sSeq (sIf (mTest (mBin (dIn false) (mC (.str "")) (mVar 1))) (sRet (mC .non)) sNil)
    (sRet (mVar 1)))))
theorem B_words_of (call : Nat → Fn) : bodyOf Gx call s_words_of N_words_of = P_words_of call := by kernel_rfl
/-- _law_mixed -/
def P__law_mixed (call : Nat → Fn) : MS :=
    (sSeq (sAsg (mBin (dAdd false) (mBin (dAdd false) (mBin dMod (mVar 0) (mC (.int 1000000007))) (mBin (dMul false) (mC (.int 7919)) (mVar 1))) (mC (.int 13))) (.one 0))
    (sRet (mBin dMod (mBin (dMul false) (mBin dMod (mBin (dMul false) (mVar 0) (mVar 0)) (mC (.int 1000000007))) (mC (.int 48271))) (mC (.int 2147483647)))))
theorem B__law_mixed (call : Nat → Fn) : bodyOf Gx call s__law_mixed N__law_mixed = P__law_mixed call := by kernel_rfl
/-- _law_reserved -/
def P__law_reserved (call : Nat → Fn) : MS :=
    (sSeq (sAsg (mLst false (mCons (mC (.str "take")) (mCons (mC (.str "drop")) (mCons (mC (.str "put")) (mCons (mC (.str "open")) (mCons (mC (.str "shut")) (mCons (mC (.str "wear")) (mCons (mC (.str "doff")) (mCons (mC (.str "look")) (mCons (mC (.str "go")) (mCons (mC (.str "list")) (mCons (mC (.str "wait")) (mCons (mC (.str "undo")) mNil))))))))))))) (.one 0))
    (sSeq (sAsg (mLst false (mCons (mC (.str "down")) (mCons (mC (.str "east")) (mCons (mC (.str "north")) (mCons (mC (.str "south")) (mCons (mC (.str "up")) (mCons (mC (.str "west")) mNil))))))) (.one 1))
    (sSeq (sAsg (mLst false (mCons (mC (.str "the")) (mCons (mC (.str "all")) (mCons (mC (.str "but")) (mCons (mC (.str "and")) (mCons (mC (.str "then")) (mCons (mC (.str "it")) (mCons (mC (.str "them")) (mCons (mC (.str "in")) (mCons (mC (.str "on")) (mCons (mC (.str "is")) (mCons (mC (.str "at")) (mCons (mC (.str "you")) (mCons (mC (.str "with")) (mCons (mC (.str "not")) (mCons (mC (.str "nowhere")) mNil)))))))))))))))) (.one 2))
    (sRet (mBin (dAdd false) (mBin (dAdd false) (mBin (dAdd false) (mVar 0) (mVar 1)) (mVar 2)) (mLst false (mCons (mC (.str "always")) (mCons (mC (.str "any")) (mCons (mC (.str "say")) (mCons (mC (.str "set")) (mCons (mC (.str "move")) (mCons (mC (.str "stop")) mNil))))))))))))
theorem B__law_reserved (call : Nat → Fn) : bodyOf Gx call s__law_reserved N__law_reserved = P__law_reserved call := by kernel_rfl
/-- _law_written -/
def P__law_written (call : Nat → Fn) : MS :=
    (sSeq (sAsg (mC (.str "abcdefghijklmnopqrstuvwxyz")) (.one 1))
    (sSeq (sAsg (mMeth "str" dJoin (mC (.str "")) (mCons (mLc false (mRange1 (mBin dMod (mVar 0) (mC (.int 11)))) (.one 3) [3] mYes (mBin dIx (mVar 1) (mBin dMod (mCall 2 (call 7) (mCons (mVar 0) (mCons (mVar 3) mNil))) (mC (.int 26))))) mNil)) (.one 2))
    (sSeq (sIf (mTest (mBin (dEq false) (mBin dMod (mBin dDiv (mVar 0) (mC (.int 11))) (mC (.int 4))) (mC (.int 0)))) (sSeq (sAsg (mBin dMod (mBin dDiv (mVar 0) (mC (.int 44))) (mBin (dAdd false) (mApp dLen (mCons (mVar 2) mNil)) (mC (.int 1)))) (.one 4))
    (sAsg (mBin (dAdd false) (mBin (dAdd false) (mSl false (mVar 2) mNoPart (mPart (mVar 4))) (mBin dIx (mC (.str "A0- {.`")) (mBin dMod (mBin dDiv (mVar 0) (mC (.int 500))) (mC (.int 7))))) (mSl false (mVar 2) (mPart (mVar 4)) mNoPart)) (.one 2))) sNil)
    (sRet (mVar 2)))))
theorem B__law_written (call : Nat → Fn) : bodyOf Gx call s__law_written N__law_written = P__law_written call := by kernel_rfl
/-- _law_small -/
def P__law_small (call : Nat → Fn) : MS :=
    (sRet (mAndV (mBin (dEq false) (mLc false (mItems (mVar 0)) (.one 1) [1] (mTest (mBin (dIn true) (mVar 1) (mC (.str "abcdefghijklmnopqrstuvwxyz")))) (mVar 1)) (mLst false mNil)) (mChain dLe dLe (mC (.int 1)) (mApp dLen (mCons (mVar 0) mNil)) (mC (.int 8)))))
theorem B__law_small (call : Nat → Fn) : bodyOf Gx call s__law_small N__law_small = P__law_small call := by kernel_rfl
/-- _law_one -/
def P__law_one (call : Nat → Fn) : MS :=
    (sSeq (sIf (mTest (mBin (dEq true) (mCall 1 (call 2) (mCons (mVar 0) mNil)) (mCall 1 (call 10) (mCons (mVar 0) mNil)))) (sRet (mC (.bl false))) sNil)
    (sSeq (sAsg (mBin (dIn false) (mVar 0) (mCall 0 (call 8) mNil)) (.one 1))
    (sSeq (sIf (mOrT (mTest (mBin (dEq true) (mCall 1 (call 3) (mCons (mVar 0) mNil)) (mVar 1))) (mTest (mBin (dEq true) (mCall 1 (call 4) (mCons (mVar 0) mNil)) (mAndV (mCall 1 (call 10) (mCons (mVar 0) mNil)) (mNotV (mVar 1)))))) (sRet (mC (.bl false))) sNil)
    (sSeq (sAsg (mLc false (mRange1 (mC (.int 10))) (.one 3) [3] (mTest (mBin (dEq false) (mVar 0) (mApp dStr (mCons (mVar 3) mNil)))) (mVar 3)) (.one 2))
    (sSeq (sAsg (mCall 1 (call 5) (mCons (mVar 0) mNil)) (.one 4))
    (sRet (mIfE (mTest (mBin (dEq false) (mVar 2) (mLst false mNil))) (mBin (dIs false) (mVar 4) (mC .non)) (mAndV (mBin (dEq false) (mVar 4) (mBin dIx (mVar 2) (mC (.int 0)))) (mNotV (mIsi ["bool"] (mVar 4)))))))))))
theorem B__law_one (call : Nat → Fn) : bodyOf Gx call s__law_one N__law_one = P__law_one call := by kernel_rfl
/-- _law_row -/
def P__law_row (call : Nat → Fn) : MS :=
    (sSeq (sAsg (mMeth "str" dJoin (mC (.str " ")) (mCons (mVar 0) mNil)) (.one 2))
    (sSeq (sFor (mRange1 (mC (.int 2))) (.one 3) (sSeq (sAsg (mCall 1 (call 6) (mCons (mVar 2) mNil)) (.one 4))
    (sSeq (sIf (mOrT (mNotT (mTru (mIsi ["list"] (mVar 4)))) (mTest (mBin (dEq true) (mVar 4) (mVar 0)))) (sRet (mC (.bl false))) sNil)
    (sExpr (mMeth "list" dAppend (mVar 4) (mCons (mC (.str "x")) mNil))))))
    (sSeq (sAsg (mBin dMod (mVar 1) (mBin (dAdd false) (mApp dLen (mCons (mVar 2) mNil)) (mC (.int 1)))) (.one 5))
    (sSeq (sAsg (mMeth "str" (dSplit false) (mBin (dAdd false) (mBin (dAdd false) (mSl false (mVar 2) mNoPart (mPart (mVar 5))) (mC (.str " "))) (mSl false (mVar 2) (mPart (mVar 5)) mNoPart)) (mCons (mC (.str " ")) mNil)) (.one 6))
    (sSeq (sAsg (mIfE (mTest (mBin (dIn false) (mC (.str "")) (mVar 6))) (mC .non) (mVar 6)) (.one 7))
    (sRet (mBin (dEq false) (mCall 1 (call 6) (mCons (mBin (dAdd false) (mBin (dAdd false) (mSl false (mVar 2) mNoPart (mPart (mVar 5))) (mC (.str " "))) (mSl false (mVar 2) (mPart (mVar 5)) mNoPart)) mNil)) (mVar 7))))))))
theorem B__law_row (call : Nat → Fn) : bodyOf Gx call s__law_row N__law_row = P__law_row call := by kernel_rfl
/-- law -/
def P_law (call : Nat → Fn) : MS :=
    (sSeq (sAsg (mLst false mNil) (.one 1))
    (sSeq (sFor (mItems (mBin (dAdd false) (mSl false (mVar 0) mNoPart (mPart (mC (.int 200)))) (mLst false (mCons (mApp dSum (mCons (mVar 0) mNil)) mNil)))) (.one 2) (sSeq (sAsg (mCall 2 (call 7) (mCons (mVar 2) (mCons (mC (.int 1)) mNil))) (.one 3))
    (sSeq (sAsg (mCall 1 (call 9) (mCons (mVar 3) mNil)) (.one 4))
    (sSeq (sAsg (mBin dIx (mCall 0 (call 8) mNil) (mBin dMod (mVar 3) (mC (.int 39)))) (.one 5))
    (sSeq (sFor (mItems (mLst false (mCons (mVar 4) (mCons (mVar 5) (mCons (mBin (dAdd false) (mVar 5) (mC (.str "s"))) (mCons (mApp dStr (mCons (mBin dMod (mVar 3) (mC (.int 12))) mNil)) (mCons (mBin dIx (mC (.str "0123456789-+x")) (mBin dMod (mVar 3) (mC (.int 13)))) mNil))))))) (.one 6) (sIf (mNotT (mTru (mCall 1 (call 11) (mCons (mVar 6) mNil)))) (sRet (mC (.bl false))) sNil))
    (sSeq (sAsg (mBin (dAdd false) (mVar 1) (mLst false (mCons (mVar 5) (mCons (mBin (dAdd false) (mBin (dAdd false) (mC (.str "a")) (mUn (dRepl 32 "") (mVar 4))) (mBin dIx (mLst false (mCons (mC (.str "")) (mCons (mC (.str "\n")) (mCons (mC (.str "\nb")) mNil)))) (mBin dMod (mVar 3) (mC (.int 3))))) mNil)))) (.one 1))
    (sSeq (sAsg (mBin dIx (mLst false (mCons (mC .non) (mCons (mC (.bl true)) (mCons (mC (.int 7)) (mCons (mLst false mNil) (mCons (mLst false (mCons (mC (.str "a")) mNil)) (mCons (fun _ st => mkD false [] st) (mCons (mTup (mCons (mC (.str "a")) mNil)) (mCons (mUn dNeg (mC (.int 2))) mNil))))))))) (mBin dMod (mVar 2) (mC (.int 8)))) (.one 7))
    (sSeq (sIf (mOrT (mTest (mBin (dIs true) (mCall 1 (call 2) (mCons (mVar 7) mNil)) (mC (.bl false)))) (mOrT (mTest (mBin (dIs true) (mCall 1 (call 3) (mCons (mVar 7) mNil)) (mC (.bl false)))) (mTest (mBin (dIs true) (mCall 1 (call 4) (mCons (mVar 7) mNil)) (mC (.bl false)))))) (sRet (mC (.bl false))) sNil)
    (sSeq (sIf (mOrT (mTest (mBin (dIs true) (mCall 1 (call 5) (mCons (mVar 7) mNil)) (mC .non))) (mTest (mBin (dIs true) (mCall 1 (call 6) (mCons (mVar 7) mNil)) (mC .non)))) (sRet (mC (.bl false))) sNil)
    (sSeq (sAsg (mBin (dIn false) (mBin dMod (mVar 2) (mC (.int 8))) (mTup (mCons (mC (.int 2)) (mCons (mC (.int 7)) mNil)))) (.one 8))
    (sSeq (sIf (mOrT (mTest (mBin (dEq true) (mCall 1 (call 0) (mCons (mVar 7) mNil)) (mVar 8))) (mOrT (mTest (mBin (dEq true) (mCall 3 (call 1) (mCons (mVar 7) (mCons (mUn dNeg (mC (.int 2))) (mCons (mC (.int 7)) mNil)))) (mVar 8))) (mTest (mBin (dIs true) (mCall 3 (call 1) (mCons (mVar 7) (mCons (mUn dNeg (mC (.int 1))) (mCons (mC (.int 6)) mNil)))) (mC (.bl false)))))) (sRet (mC (.bl false))) sNil)
    (sSeq (sAsg (mBin dMod (mVar 2) (mBin dPow (mC (.int 10)) (mC (.int 60)))) (.one 9))
    (sIf (mOrT (mTest (mBin (dIs true) (mCall 3 (call 1) (mCons (mVar 9) (mCons (mBin dSub (mVar 9) (mC (.int 1))) (mCons (mVar 9) mNil)))) (mC (.bl true)))) (mTest (mBin (dIs true) (mCall 3 (call 1) (mCons (mVar 9) (mCons (mBin (dAdd false) (mVar 9) (mC (.int 1))) (mCons (mBin (dAdd false) (mVar 9) (mC (.int 2))) mNil)))) (mC (.bl false))))) (sRet (mC (.bl false))) sNil)))))))))))))
    (sRet (mAndV (mBin (dIs false) (mCall 1 (call 6) (mCons (mC (.str "")) mNil)) (mC .non)) (mCall 2 (call 12) (mCons (mVar 1) (mCons (mCall 2 (call 7) (mCons (mApp dSum (mCons (mVar 0) mNil)) (mCons (mC (.int 2)) mNil))) mNil)))))))
theorem B_law (call : Nat → Fn) : bodyOf Gx call s_law N_law = P_law call := by kernel_rfl
end K01
namespace K01
open PySem L2 Mi
/-! ### what each def answers -/
noncomputable abbrev cF (n i : Nat) : Fn := callF Gx Tx n i
theorem cf {n i : Nat} {fe : FE} (h : Tx[i]? = some fe) {P : (Nat → Fn) → MS} (hb : ∀ call, bodyOf Gx call fe.sd fe.N = P call) {ds : List D} {st : Store} : cF (n + 1) i ds st = runF fe.N.length fe.fzd (P (cF n)) ds st := by
  show callF Gx Tx (n + 1) i ds st = _
  rw [callF_at h, hb]
theorem cp {n i : Nat} {fe : FE} (h : Tx[i]? = some fe) (hz : fe.fzd = true) {P : (Nat → Fn) → MS} (hb : ∀ call, bodyOf Gx call fe.sd fe.N = P call) {ds : List D} {st : Store} {d : D} (r : P (cF n) (startD fe.N.length ds) st = .rt d st) (hf : fz 64 st.length st d = some d) : cF (n + 1) i ds st = .ok d st := by
  rw [cf h hb, hz, runF_pure r hf]
def abc : List Nat := ("abcdefghijklmnopqrstuvwxyz" : Str).cps.toList
def wordB (s : Str) : Bool := decide (1 ≤ (s.length : Int)) && decide ((s.length : Int) ≤ 8) && s.cps.toList.all fun c => decide (c ∈ abc)
variable {n : Nat} {st : Store}
theorem boolsD_map {α : Type} (f : α → Bool) : ∀ xs : List α, boolsD (xs.map fun x => D.bl (f x)) = some (xs.map f)
  | [] => rfl
  | x :: r => by show (boolsD (r.map _)).map _ = _; rw [boolsD_map f r]; rfl
theorem is_word_run (s : Str) (hl : s.length ≤ sizeLine) : cF (n + 1) 2 [.str s] st = .ok (.bl (wordB s)) st := by
  refine cp rfl rfl B_is_word ?_ rfl
  unfold P_is_word
  simp only [r_seq]
  unfold wordB
  by_cases h1 : 1 ≤ (s.length : Int)
  · by_cases h2 : (s.length : Int) ≤ 8
    · have : mLc false (mItems (mVar 0)) (.one 1) [1] mYes (mBin (dIn false) (mVar 1) (mC c_LETTERS)) [some (.str s), none] st = .ok (.lst (s.cps.toList.map fun c => .bl (decide (c ∈ abc)))) st := by
        refine mLc_all (enc := fun c => .str ⟨#[c]⟩) rfl (by rw [Array.length_toList]; exact hl) fun c hc => ⟨_, rfl, rfl⟩
      simp [N_is_word, h1, h2, this, c_MOST_LETTERS, subT, List.replicate, dAllAny, Mi.listOf, lstOf, boolsD_map]
    · simp [N_is_word, h1, h2, c_MOST_LETTERS, subT, List.replicate]
  · simp [N_is_word, h1, c_MOST_LETTERS, subT, List.replicate]

/-! ### texts in rows -/
theorem sq_str {k : Nat} (ys : List Str) : sq ((ys.map D.str).map (deep (k + 1) st)) = some (ys.map D.str) := by
  induction ys with
  | nil => rfl
  | cons y r ih => show (sq ((r.map D.str).map (deep (k + 1) st))).map _ = _; rw [ih]; rfl
theorem fz_str {k m : Nat} (ys : List Str) : sq ((ys.map D.str).map (fz (k + 1) m st)) = some (ys.map D.str) := by
  induction ys with
  | nil => rfl
  | cons y r ih => show (sq ((r.map D.str).map (fz (k + 1) m st))).map _ = _; rw [ih]; rfl
theorem deep_str (ys : List Str) : deep 64 st (.lst (ys.map D.str)) = some (.lst (ys.map D.str)) := by
  show (sq ((ys.map D.str).map (deep 63 st))).map _ = _
  rw [sq_str]; rfl
theorem any_str (s : Str) : ∀ ys : List Str, ((ys.map D.str).any fun y => eqD y (.str s)) = decide (s ∈ ys)
  | [] => by simp
  | y :: r => by
    rw [List.map_cons, List.any_cons, any_str s r, eqD_str]
    by_cases h : y = s
    · subst h; simp
    · have : ¬ s = y := fun e => h e.symm
      simp [h, this]
theorem in_tup (ng : Bool) (s : Str) (ys : List Str) : dIn ng (.str s) (.tup (ys.map D.str)) st = .ok (.bl (sgn ng (decide (s ∈ ys)))) st := by
  show (if flatD (.str s) = true ∧ (ys.map D.str).all flatD = true then O.ok (D.bl (sgn ng ((ys.map D.str).any fun y => eqD y (.str s)))) st else .no) = _
  rw [if_pos ⟨rfl, by rw [List.all_map]; exact List.all_eq_true.mpr fun _ _ => rfl⟩, any_str]
theorem in_lst (ng : Bool) (s : Str) (ys : List Str) : dIn ng (.str s) (.lst (ys.map D.str)) st = .ok (.bl (sgn ng (decide (s ∈ ys)))) st := by
  show (match deep 64 st (.str s), deep 64 st (.lst (ys.map D.str)) with
      | some x, some (.lst ys) => O.ok (D.bl (sgn ng (ys.any fun y => eqD y x))) st
      | _, _ => .no) = _
  rw [deep_str]
  show O.ok (D.bl (sgn ng ((ys.map D.str).any fun y => eqD y (.str s)))) st = _
  rw [any_str]
def VB : List Str := ["take", "drop", "put", "open", "shut", "wear", "doff", "look", "go", "list", "wait", "undo"]
def DI : List Str := ["down", "east", "north", "south", "up", "west"]
def SM : List Str := ["the", "all", "but", "and", "then", "it", "them", "in", "on", "is", "at", "you", "with", "not", "nowhere"]
def OT : List Str := ["always", "any", "say", "set", "move", "stop"]
def RES : List Str := VB ++ DI ++ SM ++ OT
theorem reserved_run : cF (n + 1) 8 [] st = .ok (.lst (RES.map D.str)) st := cp rfl rfl B__law_reserved rfl rfl
theorem is_reserved_run (s : Str) : cF (n + 1) 3 [.str s] st = .ok (.bl (decide (s ∈ RES))) st := by
  refine cp rfl rfl B_is_reserved ?_ rfl
  unfold P_is_reserved
  have e1 : c_VERBS = .tup (VB.map D.str) := rfl
  have e2 : c_DIRECTIONS = .tup (DI.map D.str) := rfl
  have e3 : c_SMALL = .tup (SM.map D.str) := rfl
  have e4 : c_OTHERS = .tup (OT.map D.str) := rfl
  rw [e1, e2, e3, e4]
  unfold RES
  simp [N_is_reserved, subT, List.replicate, in_tup]
  by_cases h1 : s ∈ VB
  · simp [h1]
  · by_cases h2 : s ∈ DI
    · simp [h1, h2]
    · by_cases h3 : s ∈ SM
      · simp [h1, h2, h3]
      · simp [h1, h2, h3]
theorem is_name_run (s : Str) (hl : s.length ≤ sizeLine) : cF (n + 2) 4 [.str s] st = .ok (.bl (wordB s && !decide (s ∈ RES))) st := by
  refine cp rfl rfl B_is_name ?_ rfl
  unfold P_is_name
  simp [N_is_name, List.replicate, is_word_run s hl, is_reserved_run]
  cases wordB s <;> simp
theorem small_run (s : Str) (hl : s.length ≤ sizeLine) : cF (n + 1) 10 [.str s] st = .ok (.bl (wordB s)) st := by
  refine cp rfl rfl B__law_small ?_ rfl
  unfold P__law_small
  have h : mLc false (mItems (mVar 0)) (.one 1) [1] (mTest (mBin (dIn true) (mVar 1) (mC (.str "abcdefghijklmnopqrstuvwxyz")))) (mVar 1) [some (.str s), none] st = .ok (.lst ((s.cps.toList.filter fun c => !decide (c ∈ abc)).map fun c => .str ⟨#[c]⟩)) st := by
    refine mLc_map (enc := fun c => .str ⟨#[c]⟩) (p := fun c => !decide (c ∈ abc)) rfl (by rw [Array.length_toList]; exact hl) fun c hc => ⟨_, rfl, rfl, fun _ => rfl⟩
  have e : ∀ l : List Nat, dEq false (.lst (l.map fun c => D.str ⟨#[c]⟩)) (.lst []) st = .ok (.bl (l.isEmpty)) st := fun l => by
    have : (l.map fun c => D.str ⟨#[c]⟩) = (l.map fun c => (⟨#[c]⟩ : Str)).map D.str := by rw [List.map_map]; rfl
    unfold dEq
    rw [this, deep_str]
    cases l <;> rfl
  have e2 : (s.cps.toList.filter fun c => !decide (c ∈ abc)).isEmpty = s.cps.toList.all fun c => decide (c ∈ abc) := by
    generalize s.cps.toList = l
    induction l with
    | nil => rfl
    | cons x r ih => by_cases hx : x ∈ abc <;> simp [hx, ih] at *
  unfold wordB
  simp only [r_ret, r_andV, r_bin, N__law_small, List.length_cons, List.length_nil, start1, List.map_cons, List.map_nil, List.replicate, List.cons_append, List.nil_append, h, O_bind_ok]
  simp only [r_lst, r_nil, O_bind_ok]
  have m0 : mkL false [] st = .ok (.lst []) st := rfl
  rw [m0]
  simp only [O_bind_ok]
  rw [e, e2]
  simp only [O_bind_ok, tru_bl]
  cases q : s.cps.toList.all fun c => decide (c ∈ abc)
  · simp
  · by_cases h1 : 1 ≤ (s.length : Int)
    · simp [h1]
    · simp [h1]
end K01
namespace K01
open PySem L2 Mi
variable {n : Nat} {st : Store}
def dg (k : Nat) : Str := Str.ofString (toString (0 + (k : Int)))
def figs : List Nat := ("0123456789" : Str).cps.toList
theorem one_dig {s : Str} (h1 : (s.length : Int) = 1) : ∃ c, s = ⟨#[c]⟩ := by
  obtain ⟨⟨l⟩⟩ := s
  have : l.length = 1 := by have h1' : ((⟨⟨l⟩⟩ : Str).length : Int) = 1 := h1; have : (⟨⟨l⟩⟩ : Str).length = l.length := rfl; omega
  match l, this with
  | [c], _ => exact ⟨c, rfl⟩
theorem dg_one : ∀ k ∈ List.range 10, ∀ j ∈ List.range 10, (decide (dg k = dg j)) = decide (k = j) := by decide +kernel
theorem rg_one : ∀ k ∈ List.range 10, (List.range 10).filter (fun j => decide (k = j)) = [k] := by decide +kernel
theorem dg_int : ∀ k ∈ List.range 10, PySem.intText? (dg k) = some (k : Int) := by decide +kernel
theorem fig_dg : ∀ c ∈ figs, ∃ k ∈ List.range 10, (⟨#[c]⟩ : Str) = dg k := by decide +kernel
theorem dg_fig : ∀ k ∈ List.range 10, ∃ c ∈ figs, dg k = (⟨#[c]⟩ : Str) := by decide +kernel
theorem digit_yes {k : Nat} (hk : k ∈ List.range 10) : cF (n + 1) 5 [.str (dg k)] st = .ok (.int k) st := by
  refine cp rfl rfl B_digit_of ?_ rfl
  have e := dg_int k hk
  obtain ⟨c, hc, e2⟩ := dg_fig k hk
  have hn : dIn true (.str (dg k)) c_FIGURES st = .ok (.bl false) st := by
    rw [e2]
    show O.ok (D.bl (!decide (c ∈ figs))) st = _
    rw [decide_eq_true hc]; rfl
  have hl : (dg k).length = 1 := by rw [e2]; rfl
  unfold P_digit_of
  simp [N_digit_of, r_seq, List.replicate, subT, hn, hl, dInt, e]
theorem digit_no {s : Str} (h : ∀ k ∈ List.range 10, s ≠ dg k) : cF (n + 1) 5 [.str s] st = .ok .non st := by
  refine cp rfl rfl B_digit_of ?_ rfl
  unfold P_digit_of
  by_cases h1 : (s.length : Int) = 1
  · obtain ⟨c, rfl⟩ := one_dig h1
    have hc : c ∉ figs := fun hc => by
      obtain ⟨k, hk, e⟩ := fig_dg c hc
      exact h k hk e
    have hn : dIn true (.str ⟨#[c]⟩) c_FIGURES st = .ok (.bl true) st := by
      show O.ok (D.bl (!decide (c ∈ figs))) st = _
      rw [decide_eq_false hc]; rfl
    simp [N_digit_of, r_seq, List.replicate, subT, hn, h1]
  · simp [N_digit_of, r_seq, List.replicate, subT, h1]
theorem dstr_dg {k : Nat} (hk : k < 10) : dStr [.int (0 + (k : Int))] st = .ok (.str (dg k)) st := by
  have h : 0 ≤ 0 + (k : Int) ∧ 0 + (k : Int) < 1000000000 := ⟨by omega, by omega⟩
  unfold dStr dg
  dsimp only
  rw [if_pos h]
theorem due_it {ρ : Rho} : mRange1 (mC (.int 10)) ρ st = .ok ((List.range 10).map fun (k : Nat) => D.int (0 + (k : Int))) st := range_ok (j := 10) rfl (by decide) (by decide)
theorem due_run (s : Str) (a b c : Option D) : mLc false (mRange1 (mC (.int 10))) (.one 3) [3] (mTest (mBin (dEq false) (mVar 0) (mApp dStr (mCons (mVar 3) mNil)))) (mVar 3) [some (.str s), a, b, none, c] st = .ok (.lst (((List.range 10).filter fun k => decide (s = dg k)).map fun (k : Nat) => .int (0 + (k : Int)))) st := by
  refine mLc_map (enc := fun (k : Nat) => D.int (0 + (k : Int))) (p := fun k => decide (s = dg k)) due_it (by rw [List.length_range]; decide) fun k hk => ?_
  have h2 := dstr_dg (st := st) (List.mem_range.mp hk)
  refine ⟨_, rfl, ?_, fun _ => ?_⟩
  · exact run_test (run_bin rfl (run_app1 rfl h2) (e_strs ..))
  · rfl
theorem one_run (s : Str) (hl : s.length ≤ sizeLine) : cF (n + 3) 11 [.str s] st = .ok (.bl true) st := by
  refine cp rfl rfl B__law_one ?_ rfl
  unfold P__law_one
  have hs : startD N__law_one.length [.str s] = [some (.str s), none, none, none, none] := rfl
  have hd := fun a => due_run (st := st) s a none none
  have e1 := is_word_run (n := n + 1) (st := st) s hl
  have e2 := small_run (n := n + 1) (st := st) s hl
  have e3 := is_reserved_run (n := n + 1) (st := st) s
  have e4 := is_name_run (n := n) (st := st) s hl
  have e5 := reserved_run (n := n + 1) (st := st)
  have e6 := fun g => in_lst (st := st) g s RES
  rw [hs]
  have ew : ∀ b : Bool, sgn true (decide (b = b)) = false := fun b => by simp
  refine run_seq (run_skip (run_test (run_bin (run_call1 rfl e1) (run_call1 rfl e2) ((e_bls ..).trans (by rw [ew]))))) ?_
  refine run_seq (run_asg (run_bin rfl (run_call rfl rfl e5) (e6 _))) ?_
  refine run_seq (run_skip (run_orF (run_test (run_bin (run_call1 rfl e3) rfl ((e_bls ..).trans (by rw [sgnF, ew])))) (run_test (run_bin (y := .bl (wordB s && !decide (s ∈ RES))) (st2 := st) (run_call1 rfl e4) ?_ ((e_bls ..).trans (by rw [ew])))))) ?_
  · cases q : wordB s with
    | false => rw [q] at e2; exact run_andVF (run_call1 rfl e2) rfl
    | true => rw [q] at e2; exact run_andVT (run_call1 rfl e2) rfl (run_notV rfl rfl)
  refine run_seq (run_asg (hd _)) ?_
  by_cases h : ∃ k ∈ List.range 10, s = dg k
  · obtain ⟨k, hk, rfl⟩ := h
    have e7 : (List.range 10).filter (fun j => decide (dg k = dg j)) = [k] := by
      have : (List.range 10).filter (fun j => decide (dg k = dg j)) = (List.range 10).filter fun j => decide (k = j) := List.filter_congr fun j hj => dg_one k hk j hj
      rw [this]
      exact rg_one k hk
    rw [e7]
    refine run_seq (run_asg (run_call1 rfl (digit_yes hk))) ?_
    refine run_ret (run_ifEF (run_test (run_bin (st2 := st) (y := .lst []) rfl rfl rfl)) (run_andVT (x := .bl true) (st1 := st) (run_bin rfl rfl ?_) rfl (run_notV (v := false) (x := .bl false) rfl rfl)))
    show dEq false (.int (k : Int)) (.int (0 + (k : Int))) st = _
    rw [e_ints, Int.zero_add, decide_eq_true rfl]; rfl
  · have h' : ∀ k ∈ List.range 10, s ≠ dg k := fun k hk e => h ⟨k, hk, e⟩
    have e7 : (List.range 10).filter (fun j => decide (s = dg j)) = [] := List.filter_eq_nil_iff.mpr fun j hj => by simpa using h' j hj
    rw [e7]
    refine run_seq (run_asg (run_call1 rfl (digit_no h'))) ?_
    exact run_ret (run_ifET (run_test (run_bin (st2 := st) (y := .lst []) rfl rfl rfl)) (run_bin rfl rfl rfl))
end K01
namespace K01
open PySem L2 Mi
variable {n : Nat} {st : Store}
theorem mul_run {m : Bool} {i j : Int} (h1 : 0 ≤ i) (h2 : i < 18446744073709551616) : dMul m (.int i) (.int j) st = .ok (.int (i * j)) st := by
  unfold dMul
  dsimp only
  rw [if_pos (.inl ⟨by omega, by omega⟩)]
theorem mod_run {i j : Int} (h : 0 < j) : dMod (.int i) (.int j) st = .ok (.int (i % j)) st := by
  unfold dMod
  dsimp only
  rw [if_pos h]
theorem div_run {i j : Int} (h : 0 < j) (h2 : j < 1073741824) : dDiv (.int i) (.int j) st = .ok (.int (i / j)) st := by
  unfold dDiv
  dsimp only
  rw [if_pos ⟨h, h2⟩]
def mx0 (c k : Int) : Int := c % 1000000007 + 7919 * k + 13
def mx (c k : Int) : Int := mx0 c k * mx0 c k % 1000000007 * 48271 % 2147483647
theorem mx_le (c k : Int) : 0 ≤ mx c k ∧ mx c k < 2147483647 := ⟨Int.emod_nonneg _ (by decide), Int.emod_lt_of_pos _ (by decide)⟩
theorem mixed_run {c k : Int} (h0 : 0 ≤ k) (h1 : k ≤ 1000) : cF (n + 1) 7 [.int c, .int k] st = .ok (.int (mx c k)) st := by
  refine cp rfl rfl B__law_mixed ?_ rfl
  have hm : 0 ≤ c % 1000000007 ∧ c % 1000000007 < 1000000007 := ⟨Int.emod_nonneg _ (by decide), Int.emod_lt_of_pos _ (by decide)⟩
  have hx : 0 ≤ mx0 c k ∧ mx0 c k < 18446744073709551616 := by unfold mx0; omega
  have hy : 0 ≤ mx0 c k * mx0 c k % 1000000007 ∧ mx0 c k * mx0 c k % 1000000007 < 1000000007 := ⟨Int.emod_nonneg _ (by decide), Int.emod_lt_of_pos _ (by decide)⟩
  refine run_seq (run_asg (run_bin (run_bin (run_bin rfl rfl (mod_run (by decide))) (run_bin rfl rfl (mul_run (by decide) (by decide))) (a_ints ..)) rfl (a_ints ..))) ?_
  exact run_ret (run_bin (run_bin (run_bin (run_bin rfl rfl (mul_run hx.1 hx.2)) rfl (mod_run (by decide))) rfl (mul_run hy.1 (by omega))) rfl (mod_run (by decide)))
theorem atI_at {α : Type} {xs : List α} {i : Int} (h0 : 0 ≤ i) (h1 : i < xs.length) : ∃ x, atI xs i = some x ∧ x ∈ xs := by
  have e : ixN xs.length i = some i.toNat := by
    unfold ixN
    rw [if_pos h0, if_pos h1]
  have hl : i.toNat < xs.length := by omega
  refine ⟨xs[i.toNat], ?_, List.getElem_mem hl⟩
  unfold atI
  rw [e]
  show xs[i.toNat]? = _
  rw [List.getElem?_eq_getElem hl]
theorem ix_str {s : Str} {i : Int} (h0 : 0 ≤ i) (h1 : i < s.length) : ∃ c, dIx (.str s) (.int i) st = .ok (.str ⟨#[c]⟩) st ∧ c ∈ s.cps.toList := by
  obtain ⟨c, hc, hm⟩ := atI_at (xs := s.cps.toList) h0 (by rw [Array.length_toList]; exact h1)
  refine ⟨c, ?_, hm⟩
  show (match atI s.cps.toList i with
        | some c => O.ok (D.str ⟨#[c]⟩) st
        | none => .no) = _
  rw [hc]
theorem ix_lst {xs : List D} {i : Int} (h0 : 0 ≤ i) (h1 : i < xs.length) : ∃ d, dIx (.lst xs) (.int i) st = .ok d st ∧ d ∈ xs := by
  obtain ⟨c, hc, hm⟩ := atI_at (xs := xs) h0 h1
  refine ⟨c, ?_, hm⟩
  show (match atI xs i with
        | some c => O.ok c st
        | none => .no) = _
  rw [hc]
theorem add_str {m : Bool} {x y : Str} (h : x.length + y.length ≤ 16777216) : dAdd m (.str x) (.str y) st = .ok (.str (x ++ y)) st := by
  unfold dAdd
  dsimp only
  rw [if_pos (show x.length + y.length ≤ sizeLine from h)]
theorem strsD_map : ∀ xs : List Str, strsD (xs.map D.str) = some xs
  | [] => rfl
  | x :: r => by show (strsD (r.map D.str)).map _ = _; rw [strsD_map r]; rfl
theorem join_run {y : Str} {ws : List Str} (h : (ws.map (·.length)).sum + ws.length * y.length ≤ 16777216) : dJoin (.str y) [.lst (ws.map D.str)] st = .ok (.str (Txt.join y ws)) st := by
  show (match strsD (ws.map D.str) with
      | some ps => if (ps.map fun (z : Str) => z.length).sum + ps.length * y.length ≤ 16777216 then O.ok (D.str (Txt.join y ps)) st else .no
      | none => .no) = _
  rw [strsD_map]
  dsimp only
  rw [if_pos h]
theorem sum_ones : ∀ (ws : List Str) (k : Nat), (∀ w ∈ ws, w.length ≤ k) → (ws.map (·.length)).sum ≤ ws.length * k
  | [], _, _ => by simp
  | w :: r, k, h => by
    have := sum_ones r k fun z hz => h z (List.mem_cons_of_mem _ hz)
    have := h w (List.mem_cons_self ..)
    rw [List.map_cons, List.sum_cons, List.length_cons, Nat.add_mul]
    omega
theorem pick {α β : Type} {P : α → β → Prop} {xs : List α} (d : β) (h : ∀ x ∈ xs, ∃ y, P x y) : ∃ f : α → β, ∀ x ∈ xs, P x (f x) := by
  classical
  refine ⟨fun x => if hx : x ∈ xs then Classical.choose (h x hx) else d, fun x hx => ?_⟩
  simp only [hx, dif_pos]
  exact Classical.choose_spec (h x hx)
theorem written_run {m : Int} (h0 : 0 ≤ m) : ∃ w : Str, w.length ≤ 30 ∧ cF (n + 2) 9 [.int m] st = .ok (.str w) st := by
  have hm : 0 ≤ m % 11 ∧ m % 11 < 11 := ⟨Int.emod_nonneg _ (by decide), Int.emod_lt_of_pos _ (by decide)⟩
  obtain ⟨f, hf⟩ := pick (P := fun (k : Nat) (w : Str) => w.length = 1 ∧ mBin dIx (mVar 1) (mBin dMod (mCall 2 (cF (n + 1) 7) (mCons (mVar 0) (mCons (mVar 3) mNil))) (mC (.int 26))) [some (.int m), some (.str "abcdefghijklmnopqrstuvwxyz"), none, some (.int (0 + (k : Int))), none] st = .ok (.str w) st) (xs := List.range (m % 11).toNat) "" (by
    intro k hk
    have hk := List.mem_range.mp hk
    obtain ⟨c, hc, _⟩ := ix_str (st := st) (s := "abcdefghijklmnopqrstuvwxyz") (i := mx m (0 + (k : Int)) % 26) (Int.emod_nonneg _ (by decide)) (Int.emod_lt_of_pos _ (by decide))
    exact ⟨⟨#[c]⟩, rfl, run_bin rfl (run_bin (run_call2 rfl rfl (mixed_run (by omega) (by omega))) rfl (mod_run (by decide))) hc⟩)
  let ws : List Str := (List.range (m % 11).toNat).map f
  have hw1 : ∀ w ∈ ws, w.length ≤ 1 := fun w hw => by
    obtain ⟨k, hk, rfl⟩ := List.mem_map.mp hw
    rw [(hf k hk).1]; decide
  have hwl : ws.length ≤ 10 := by simp only [ws, List.length_map, List.length_range]; omega
  have hsum := sum_ones ws 1 hw1
  have hlc : mLc false (mRange1 (mBin dMod (mVar 0) (mC (.int 11)))) (.one 3) [3] mYes (mBin dIx (mVar 1) (mBin dMod (mCall 2 (cF (n + 1) 7) (mCons (mVar 0) (mCons (mVar 3) mNil))) (mC (.int 26)))) [some (.int m), some (.str "abcdefghijklmnopqrstuvwxyz"), none, none, none] st = .ok (.lst (ws.map D.str)) st := by
    have : ws.map D.str = (List.range (m % 11).toNat).map fun k => D.str (f k) := by simp only [ws, List.map_map]; rfl
    rw [this]
    exact mLc_all (enc := fun (k : Nat) => D.int (0 + (k : Int))) (range_ok (run_bin rfl rfl (mod_run (by decide))) hm.1 (by omega)) (by simp only [List.length_range, sizeLine]; omega) fun k hk => ⟨_, rfl, (hf k hk).2⟩
  have hj : (Txt.join "" ws).length ≤ 10 := by
    rw [TL.join_eq]
    have h1 := StrLaws.join_length_le "" ws
    have h2 : ("" : Str).length = 0 := rfl
    rw [h2, Nat.mul_zero] at h1
    omega
  have hjr : dJoin (.str "") [.lst (ws.map D.str)] st = .ok (.str (Txt.join "" ws)) st := join_run (by
    have h2 : ("" : Str).length = 0 := rfl
    rw [h2, Nat.mul_zero]
    omega)
  generalize Txt.join "" ws = w at hj hjr
  have hs : startD N__law_written.length [.int m] = [some (.int m), none, none, none, none] := rfl
  have go : ∀ w', P__law_written (cF (n + 1)) (startD N__law_written.length [.int m]) st = .rt (.str w') st → cF (n + 2) 9 [.int m] st = .ok (.str w') st := fun w' h => cp rfl rfl B__law_written h rfl
  by_cases hd : m / 11 % 4 = 0
  · obtain ⟨c, hc, _⟩ := ix_str (st := st) (s := "A0- {.`") (i := m / 500 % 7) (Int.emod_nonneg _ (by decide)) (Int.emod_lt_of_pos _ (by decide))
    let at' : Int := m / 44 % ((w.length : Int) + 1)
    have h1 := cutS_length w none (some at')
    have h2 := cutS_length w (some at') none
    -- the two cuts together are the text
    have h3 : (cutS w none (some at')).length + (cutS w (some at') none).length ≤ w.length + w.length := by omega
    refine ⟨cutS w none (some at') ++ ⟨#[c]⟩ ++ cutS w (some at') none, ?_, ?_⟩
    · rw [Str.length_append, Str.length_append]
      show _ + 1 + _ ≤ _
      omega
    · refine go _ ?_
      rw [hs]
      refine run_seq (run_asg rfl) ?_
      refine run_seq (run_asg (run_meth rfl rfl (run_args1 hlc) hjr)) ?_
      refine run_seq (run_ifT (run_test (run_bin (run_bin (run_bin rfl rfl (div_run (by decide) (by decide))) rfl (mod_run (by decide))) rfl ((e_ints ..).trans (by rw [decide_eq_true hd]; rfl)))) (run_seq (run_asg (run_bin (run_bin rfl rfl (div_run (by decide) (by decide))) (run_bin (run_app1 rfl (len_str _)) rfl (a_ints ..)) (mod_run (by omega)))) (run_asg (run_bin (run_bin rfl (run_bin rfl (run_bin (run_bin rfl rfl (div_run (by decide) (by decide))) rfl (mod_run (by decide))) hc) (add_str ?_)) rfl (add_str ?_))))) (run_ret rfl)
      · show (cutS w none (some at')).length + 1 ≤ _
        omega
      · show (cutS w none (some at') ++ ⟨#[c]⟩).length + (cutS w (some at') none).length ≤ _
        rw [Str.length_append]
        show (cutS w none (some at')).length + 1 + _ ≤ _
        omega
  · refine ⟨w, by omega, go _ ?_⟩
    rw [hs]
    refine run_seq (run_asg rfl) ?_
    refine run_seq (run_asg (run_meth rfl rfl (run_args1 hlc) hjr)) ?_
    exact run_seq (run_skip (run_test (run_bin (run_bin (run_bin rfl rfl (div_run (by decide) (by decide))) rfl (mod_run (by decide))) rfl ((e_ints ..).trans (by rw [decide_eq_false hd]; rfl))))) (run_ret rfl)
end K01
namespace K01
open PySem L2 Mi
variable {n : Nat} {st : Store}
theorem forGo_nx {t : Tgt} {b : MS} {d : D} {r : List D} {ρ ρ1 ρ2 : Rho} {st2 : Store} (hb : bindT t d ρ = some ρ1) (h : b ρ1 st = .nx ρ2 st2) : forGo t b (d :: r) ρ st = forGo t b r ρ2 st2 := by
  show (match bindT t d ρ with
        | none => OS.no
        | some ρ1 => (b ρ1 st).turn (forGo t b r)) = _
  rw [hb]
  dsimp only
  rw [h]; rfl
theorem get_last (st : Store) (o : Ob) : (st ++ [o])[st.length]? = some o := by simp
theorem deep_ref {st' : Store} {i : Nat} {ys : List Str} (h : st'[i]? = some (.lst (ys.map D.str))) : deep 64 st' (.ref i) = some (.lst (ys.map D.str)) := by
  show (match st'[i]? with
    | some (.lst xs) => (sq (xs.map (deep 63 st'))).map D.lst
    | _ => none) = _
  rw [h]
  show (sq ((ys.map D.str).map (deep 63 st'))).map D.lst = _
  rw [sq_str]; rfl
theorem in_ref {st' : Store} {i : Nat} {ys : List Str} (h : st'[i]? = some (.lst (ys.map D.str))) (ng : Bool) (s : Str) : dIn ng (.str s) (.ref i) st' = .ok (.bl (sgn ng (decide (s ∈ ys)))) st' := by
  have hd : dctOf st' (.ref i) = none := by
    show (match st'[i]? with
      | some (.dct xs) => some xs
      | _ => none) = _
    rw [h]
  show (match dctOf st' (.ref i) with
    | some kvs => match keyD (.str s) with
      | some k => O.ok (D.bl (sgn ng (valD kvs k).isSome)) st'
      | none => .no
    | none => match deep 64 st' (.str s), deep 64 st' (.ref i) with
      | some x, some (.lst ys) => O.ok (D.bl (sgn ng (ys.any fun y => eqD y x))) st'
      | _, _ => .no) = _
  rw [hd, deep_ref h]
  show O.ok (D.bl (sgn ng ((ys.map D.str).any fun y => eqD y (.str s)))) st' = _
  rw [any_str]
/-- cut at the blanks -/
theorem split_run {m : Bool} {s : Str} (h : s.length ≤ 100000) : dSplit m (.str s) [.str " "] st = mkL m ((splitS 32 s).map D.str) st := by
  show (if 32 < 256 ∧ s.length + 2 ≤ sizeLine then mkL m ((splitS 32 s).map D.str) st else .no) = _
  rw [if_pos ⟨by decide, by unfold sizeLine; omega⟩]
theorem spC_len (c : Nat) : ∀ l : List Nat, (spC c l).length ≤ l.length + 1
  | [] => by simp [spC]
  | x :: r => by
    have ih := spC_len c r
    unfold spC
    split
    · simp only [List.length_cons]; omega
    · split
      · rename_i e; rw [e] at ih; simp only [List.length_cons] at *; omega
      · simp only [List.length_cons, List.length_nil]; omega
theorem splitS_len (s : Str) : (splitS 32 s).length ≤ s.length + 1 := by
  unfold splitS
  rw [List.length_map]
  exact Nat.le_trans (spC_len _ _) (by rw [Array.length_toList]; exact Nat.le_refl _)
theorem mkLt {ds : List D} (h : ds.length ≤ 1000000) : mkL true ds st = .ok (.ref st.length) (st ++ [.lst ds]) := by
  unfold mkL
  rw [if_pos (show ds.length ≤ sizeLine by unfold sizeLine; omega), if_pos rfl]
theorem mkLf {ds : List D} (h : ds.length ≤ 1000000) : mkL false ds st = .ok (.lst ds) st := by
  unfold mkL
  rw [if_pos (show ds.length ≤ sizeLine by unfold sizeLine; omega), if_neg Bool.false_ne_true]
theorem ck {i : Nat} {fe : FE} (h : Tx[i]? = some fe) (hz : fe.fzd = false) {P : (Nat → Fn) → MS} (hb : ∀ call, bodyOf Gx call fe.sd fe.N = P call) {ds : List D} {st st' : Store} {d : D} (r : P (cF n) (startD fe.N.length ds) st = .rt d st') : cF (n + 1) i ds st = .ok d st' := by
  rw [cf h hb, hz, runF_keep r]
theorem words_run {s : Str} (h : s.length ≤ 100000) : cF (n + 1) 6 [.str s] st = .ok (if ("" : Str) ∈ splitS 32 s then .non else .ref st.length) (st ++ [.lst ((splitS 32 s).map D.str)]) := by
  refine ck rfl rfl B_words_of ?_
  have hs := splitS_len s
  have hi := in_ref (get_last st (.lst ((splitS 32 s).map D.str))) false ""
  refine run_seq (run_skip (run_notT (v := true) (run_tru rfl rfl))) ?_
  refine run_seq (run_asg (run_meth rfl rfl rfl ((split_run h).trans (mkLt (by rw [List.length_map]; omega))))) ?_
  by_cases q : ("" : Str) ∈ splitS 32 s
  · rw [decide_eq_true q] at hi
    rw [if_pos q]
    exact sSeq_rt (run_ifT (run_test (run_bin rfl rfl hi)) (run_ret rfl))
  · rw [decide_eq_false q] at hi
    rw [if_neg q]
    exact run_seq (run_skip (run_test (run_bin rfl rfl hi))) (run_ret rfl)
theorem eqAll_str : ∀ ws : List Str, PyData.eqvAll (toPys (ws.map D.str)) (toPys (ws.map D.str)) = true
  | [] => rfl
  | w :: r => by
    show (eqD (.str w) (.str w) && PyData.eqvAll (toPys (r.map D.str)) (toPys (r.map D.str))) = true
    rw [eqAll_str r, eqD_str, decide_eq_true rfl]; rfl
theorem eq_ref {st' : Store} {i : Nat} {ys : List Str} (h : st'[i]? = some (.lst (ys.map D.str))) (ng : Bool) : dEq ng (.ref i) (.lst (ys.map D.str)) st' = .ok (.bl (sgn ng true)) st' := by
  unfold dEq
  rw [deep_ref h, deep_str]
  have : eqD (.lst (ys.map D.str)) (.lst (ys.map D.str)) = true := eqAll_str ys
  dsimp only
  rw [this]
  cases ng <;> rfl
structure Good (ws : List Str) : Prop where
  ne : ws ≠ []
  fine : ∀ w ∈ ws, w ≠ "" ∧ 32 ∉ w.cps.toList ∧ w.length ≤ 40
  len : ws.length ≤ 200
theorem row_text {ws : List Str} (g : Good ws) : splitS 32 (Txt.join " " ws) = ws := by
  rw [← split_eq (by decide)]
  exact TL.split_join (y := " ") (s := 32) (S := []) rfl (by decide +kernel) g.ne fun p hp => (g.fine p hp).2.1
theorem row_run {ws : List Str} (g : Good ws) {m : Int} (h0 : 0 ≤ m) : cF (n + 2) 12 [.lst (ws.map D.str), .int m] st = .ok (.bl true) st := by
  have hsum := sum_ones ws 40 fun w hw => (g.fine w hw).2.2
  have hl := g.len
  have h1 : (" " : Str).length = 1 := rfl
  have hz : (ws.map (·.length)).sum + ws.length * (" " : Str).length ≤ 16777216 := by rw [h1]; omega
  have hjl : (Txt.join " " ws).length ≤ 8200 := by
    rw [TL.join_eq]
    have h2 := StrLaws.join_length_le " " ws
    rw [h1] at h2
    omega
  have hj := join_run (st := st) hz
  have ht := row_text g
  have hq : ("" : Str) ∉ ws := fun z => (g.fine _ z).1 rfl
  generalize Txt.join " " ws = row at hjl hj ht
  have hw : ∀ st0 : Store, cF (n + 1) 6 [.str row] st0 = .ok (.ref st0.length) (st0 ++ [.lst (ws.map D.str)]) := fun st0 => by
    rw [words_run (by omega), ht, if_neg hq]
  have P : ∃ ext, P__law_row (cF (n + 1)) (startD N__law_row.length [.lst (ws.map D.str), .int m]) st = .rt (.bl true) (st ++ ext) := by
    have hs : startD N__law_row.length [.lst (ws.map D.str), .int m] = [some (.lst (ws.map D.str)), some (.int m), none, none, none, none, none, none] := rfl
    rw [hs]
    -- one turn of the loop
    have turn : ∀ (t f : Option D) (st0 : Store), ∃ st1, sSeq (sAsg (mCall 1 (cF (n + 1) 6) (mCons (mVar 2) mNil)) (.one 4))
        (sSeq (sIf (mOrT (mNotT (mTru (mIsi ["list"] (mVar 4)))) (mTest (mBin (dEq true) (mVar 4) (mVar 0)))) (sRet (mC (.bl false))) sNil)
        (sExpr (mMeth "list" dAppend (mVar 4) (mCons (mC (.str "x")) mNil)))) [some (.lst (ws.map D.str)), some (.int m), some (.str row), t, f, none, none, none] st0 = .nx [some (.lst (ws.map D.str)), some (.int m), some (.str row), t, some (.ref st0.length), none, none, none] (st0 ++ [st1]) := by
      intro t f st0
      have hg := get_last st0 (.lst (ws.map D.str))
      have hty : tyOfD (.ref st0.length) (st0 ++ [.lst (ws.map D.str)]) = some "list" := by
        show (match (st0 ++ [Ob.lst (ws.map D.str)])[st0.length]? with
          | some (.lst _) => some "list"
          | some (.dct _) => some "dict"
          | _ => none) = _
        rw [hg]
      have htd : tyD "list" (.ref st0.length) (st0 ++ [.lst (ws.map D.str)]) = true := by
        have : Mi.listOf (st0 ++ [.lst (ws.map D.str)]) (.ref st0.length) = some (ws.map D.str) := by
          show (match (st0 ++ [Ob.lst (ws.map D.str)])[st0.length]? with
            | some (.lst xs) => some xs
            | _ => none) = _
          rw [hg]
        show (("list" == "list" && (Mi.listOf (st0 ++ [.lst (ws.map D.str)]) (.ref st0.length)).isSome) || _) = true
        rw [this]; rfl
      have hap : dAppend (.ref st0.length) [.str "x"] (st0 ++ [.lst (ws.map D.str)]) = .ok .non (st0 ++ [.lst (ws.map D.str ++ [.str "x"])]) := by
        show (match (st0 ++ [Ob.lst (ws.map D.str)])[st0.length]? with
          | some (.lst l) => if l.length < sizeLine then O.ok D.non ((st0 ++ [Ob.lst (ws.map D.str)]).set st0.length (Ob.lst (l ++ [D.str "x"]))) else .no
          | _ => .no) = _
        rw [hg]
        dsimp only
        rw [if_pos (by rw [List.length_map]; unfold sizeLine; omega)]
        congr 1
        simp
      refine ⟨.lst (ws.map D.str ++ [.str "x"]), run_seq (run_asg (run_call1 rfl (hw st0))) ?_⟩
      refine run_seq (run_skip (run_orF (run_notT (v := true) (run_tru (x := .bl true) ?_ rfl)) (run_test (run_bin rfl rfl (eq_ref hg true))))) (run_expr (run_meth rfl htd rfl hap))
      rw [r_isi]
      show (match tyOfD (.ref st0.length) (st0 ++ [.lst (ws.map D.str)]) with
        | some t => O.ok (D.bl (["list"].any (subT t))) _
        | none => .no) = _
      rw [hty]; rfl
    obtain ⟨o1, t1⟩ := turn (some (.int (0 + (0 : Nat)))) none st
    obtain ⟨o2, t2⟩ := turn (some (.int (0 + (1 : Nat)))) (some (.ref st.length)) (st ++ [o1])
    have loop : sFor (mRange1 (mC (.int 2))) (.one 3) (sSeq (sAsg (mCall 1 (cF (n + 1) 6) (mCons (mVar 2) mNil)) (.one 4))
        (sSeq (sIf (mOrT (mNotT (mTru (mIsi ["list"] (mVar 4)))) (mTest (mBin (dEq true) (mVar 4) (mVar 0)))) (sRet (mC (.bl false))) sNil)
        (sExpr (mMeth "list" dAppend (mVar 4) (mCons (mC (.str "x")) mNil))))) [some (.lst (ws.map D.str)), some (.int m), some (.str row), none, none, none, none, none] st = .nx [some (.lst (ws.map D.str)), some (.int m), some (.str row), some (.int (0 + (1 : Nat))), some (.ref (st ++ [o1]).length), none, none, none] (st ++ [o1] ++ [o2]) := by
      unfold sFor
      rw [range_ok (j := 2) rfl (by decide) (by decide)]
      have e : rangeD 0 (Int.toNat 2) = [.int (0 + ((0 : Nat) : Int)), .int (0 + ((1 : Nat) : Int))] := by kernel_rfl
      rw [e, O_toS_ok, forGo_nx (bindT_one ..) t1, forGo_nx (bindT_one ..) t2]
      rfl
    let at' : Int := m % ((row.length : Int) + 1)
    have c1 := cutS_length row none (some at')
    have c2 := cutS_length row (some at') none
    have hcat : (cutS row none (some at') ++ " " ++ cutS row (some at') none).length ≤ 20000 := by
      rw [Str.length_append, Str.length_append, h1]; omega
    have b1 : ∀ {st0 : Store}, dAdd false (.str (cutS row none (some at'))) (.str " ") st0 = .ok (.str (cutS row none (some at') ++ " ")) st0 := add_str (by rw [h1]; omega)
    have b2 : ∀ {st0 : Store}, dAdd false (.str (cutS row none (some at') ++ " ")) (.str (cutS row (some at') none)) st0 = .ok (.str (cutS row none (some at') ++ " " ++ cutS row (some at') none)) st0 := add_str (by rw [Str.length_append, h1]; omega)
    have hls := splitS_len (cutS row none (some at') ++ " " ++ cutS row (some at') none)
    have wr : ∀ st0 : Store, cF (n + 1) 6 _ st0 = _ := fun st0 => words_run (n := n) (st := st0) (s := cutS row none (some at') ++ " " ++ cutS row (some at') none) (by omega)
    have hin : ∀ st0 : Store, dIn false _ _ st0 = _ := fun st0 => in_lst (st := st0) false "" (splitS 32 (cutS row none (some at') ++ " " ++ cutS row (some at') none))
    have hsp : ∀ st0 : Store, dSplit false _ _ st0 = _ := fun st0 => (split_run (m := false) (st := st0) (s := cutS row none (some at') ++ " " ++ cutS row (some at') none) (by omega)).trans (mkLf (by rw [List.length_map]; omega))
    generalize hcut : cutS row none (some at') ++ " " ++ cutS row (some at') none = txt at *
    refine ⟨[o1, o2, .lst ((splitS 32 txt).map D.str)], ?_⟩
    have est : st ++ [o1, o2, .lst ((splitS 32 txt).map D.str)] = (st ++ [o1] ++ [o2]) ++ [.lst ((splitS 32 txt).map D.str)] := by simp
    rw [est]
    refine run_seq (run_asg (run_meth rfl rfl rfl hj)) ?_
    refine run_seq loop ?_
    generalize st ++ [o1] ++ [o2] = st3
    refine run_seq (run_asg (run_bin rfl (run_bin (run_app1 rfl (len_str _)) rfl (a_ints ..)) (mod_run (by omega)))) ?_
    refine run_seq (run_asg (run_meth (run_bin (run_bin rfl rfl b1) rfl b2) rfl rfl (hsp st3))) ?_
    by_cases q : ("" : Str) ∈ splitS 32 txt
    · have hin' := hin st3
      rw [decide_eq_true q] at hin'
      have wr' := wr st3
      rw [if_pos q] at wr'
      refine run_seq (run_asg (run_ifET (run_test (run_bin rfl rfl hin')) rfl)) ?_
      exact run_ret (run_bin (run_call1 (run_bin (run_bin rfl rfl b1) rfl b2) wr') rfl rfl)
    · have hin' := hin st3
      rw [decide_eq_false q] at hin'
      have wr' := wr st3
      rw [if_neg q] at wr'
      refine run_seq (run_asg (run_ifEF (run_test (run_bin rfl rfl hin')) rfl)) ?_
      exact run_ret (run_bin (run_call1 (run_bin (run_bin rfl rfl b1) rfl b2) wr') rfl (eq_ref (get_last st3 _) false))
  obtain ⟨ext, h⟩ := P
  show callF Gx Tx (n + 1 + 1) 12 _ st = _
  rw [callF_at (fe := ⟨"_law_row", s__law_row, N__law_row, p__law_row, true⟩) rfl, B__law_row]
  exact runF_cut h rfl
end K01
namespace K01
open PySem L2 Mi
variable {n : Nat} {st : Store}
def odds : List D := [.non, .bl true, .int 7, .lst [], .lst [.str "a"], .dct [], .tup [.str "a"], .int (-2)]
/-- what the odd ones give -/
structure OddAt (n : Nat) (st : Store) (r : Nat) (d : D) : Prop where
  a2 : cF (n + 1) 2 [d] st = .ok (.bl false) st
  a3 : cF (n + 1) 3 [d] st = .ok (.bl false) st
  a4 : cF (n + 2) 4 [d] st = .ok (.bl false) st
  a5 : cF (n + 1) 5 [d] st = .ok .non st
  a6 : cF (n + 1) 6 [d] st = .ok .non st
  a0 : cF (n + 1) 0 [d] st = .ok (.bl (r == 2 || r == 7)) st
  a1 : cF (n + 2) 1 [d, .int (-2), .int 7] st = .ok (.bl (r == 2 || r == 7)) st
  a1' : cF (n + 2) 1 [d, .int (-1), .int 6] st = .ok (.bl false) st
theorem among_no {d a b : D} (h : cF (n + 1) 0 [d] st = .ok (.bl false) st) : cF (n + 2) 1 [d, a, b] st = .ok (.bl false) st :=
  cp rfl rfl B_is_among (run_ret (run_andVF (run_call1 rfl h) rfl)) rfl
theorem whole_int (i : Int) : cF (n + 1) 0 [.int i] st = .ok (.bl true) st := cp rfl rfl B_is_whole rfl rfl
section
variable {ρ : Rho} {st1 st2 st3 st4 : Store} {a b c : M D} {x y w : D} {f g : D → D → Store → O D}
theorem run_chainT {r : O D} (ha : a ρ st = .ok x st1) (hb : b ρ st1 = .ok y st2) (hf : f x y st2 = .ok (.bl true) st3) (hc : c ρ st3 = .ok w st4) (hg : g y w st4 = r) : mChain f g a b c ρ st = r := by
  rw [r_chain, ha, O_bind_ok, hb, O_bind_ok, hf, O_bind_ok]
  dsimp only
  rw [hc, O_bind_ok, hg]
theorem run_chainF (ha : a ρ st = .ok x st1) (hb : b ρ st1 = .ok y st2) (hf : f x y st2 = .ok (.bl false) st3) : mChain f g a b c ρ st = .ok (.bl false) st3 := by
  rw [r_chain, ha, O_bind_ok, hb, O_bind_ok, hf, O_bind_ok]
end
theorem among_int (i a b : Int) : cF (n + 2) 1 [.int i, .int a, .int b] st = .ok (.bl (decide (a ≤ i ∧ i ≤ b))) st := by
  refine cp rfl rfl B_is_among (run_ret (run_andVT (run_call1 rfl (whole_int i)) rfl ?_)) rfl
  by_cases h : a ≤ i
  · have e : decide (a ≤ i ∧ i ≤ b) = decide (i ≤ b) := by simp [h]
    rw [e]
    exact run_chainT rfl rfl ((l_ints a i).trans (by rw [decide_eq_true h])) rfl (l_ints i b)
  · have e : decide (a ≤ i ∧ i ≤ b) = false := by simp [h]
    rw [e]
    exact run_chainF rfl rfl ((l_ints a i).trans (by rw [decide_eq_false h]))
theorem name_no {d : D} (h : cF (n + 1) 2 [d] st = .ok (.bl false) st) : cF (n + 2) 4 [d] st = .ok (.bl false) st :=
  cp rfl rfl B_is_name (run_ret (run_andVF (run_call1 rfl h) rfl)) rfl
theorem odd_of {r : Nat} {d : D} (t : String) (ht : tyOfD d st = some t) (hs : subT t "str" = false) (a0 : cF (n + 1) 0 [d] st = .ok (.bl (r == 2 || r == 7)) st) (a1 : cF (n + 2) 1 [d, .int (-2), .int 7] st = .ok (.bl (r == 2 || r == 7)) st) (a1' : cF (n + 2) 1 [d, .int (-1), .int 6] st = .ok (.bl false) st) : OddAt n st r d := by
  have hi : ∀ ρ : Rho, mIsi ["str"] (mVar 0) (some d :: ρ) st = .ok (.bl false) st := fun ρ => by
    rw [r_isi, r_var0, O_bind_ok, ht]
    dsimp only
    simp [hs]
  have a2 : cF (n + 1) 2 [d] st = .ok (.bl false) st := cp rfl rfl B_is_word (sSeq_rt (run_ifT (run_orT (run_notT (v := false) (run_tru (hi _) rfl))) (run_ret rfl))) rfl
  refine ⟨a2, cp rfl rfl B_is_reserved (run_ret (run_andVF (hi _) rfl)) rfl, name_no a2, cp rfl rfl B_digit_of (sSeq_rt (run_ifT (run_orT (run_notT (v := false) (run_tru (hi _) rfl))) (run_ret rfl))) rfl, ck rfl rfl B_words_of (sSeq_rt (run_ifT (run_notT (v := false) (run_tru (hi _) rfl)) (run_ret rfl))), a0, a1, a1'⟩
theorem odd_all (r : Nat) (h : r < 8) : ∃ d, atI odds (r : Int) = some d ∧ ∀ n, OddAt n st r d := by
  have w : ∀ {n : Nat} (d : D), (mIsi ["int"] (mVar 0) [some d] st = .ok (.bl false) st ∨ d = .bl true) → cF (n + 1) 0 [d] st = .ok (.bl false) st := fun {n} d h => by
    rcases h with h | rfl
    · exact cp rfl rfl B_is_whole (run_ret (run_andVF h rfl)) rfl
    · exact cp rfl rfl B_is_whole rfl rfl
  match r, h with
  | 0, _ => exact ⟨.non, rfl, fun n => odd_of "NoneType" rfl rfl (w _ (.inl rfl)) (among_no (w _ (.inl rfl))) (among_no (w _ (.inl rfl)))⟩
  | 1, _ => exact ⟨.bl true, rfl, fun n => odd_of "bool" rfl rfl (w _ (.inr rfl)) (among_no (w _ (.inr rfl))) (among_no (w _ (.inr rfl)))⟩
  | 2, _ => exact ⟨.int 7, rfl, fun n => odd_of "int" rfl rfl (whole_int 7) (among_int ..) (among_int ..)⟩
  | 3, _ => exact ⟨.lst [], rfl, fun n => odd_of "list" rfl rfl (w _ (.inl rfl)) (among_no (w _ (.inl rfl))) (among_no (w _ (.inl rfl)))⟩
  | 4, _ => exact ⟨.lst [.str "a"], rfl, fun n => odd_of "list" rfl rfl (w _ (.inl rfl)) (among_no (w _ (.inl rfl))) (among_no (w _ (.inl rfl)))⟩
  | 5, _ => exact ⟨.dct [], rfl, fun n => odd_of "dict" rfl rfl (w _ (.inl rfl)) (among_no (w _ (.inl rfl))) (among_no (w _ (.inl rfl)))⟩
  | 6, _ => exact ⟨.tup [.str "a"], rfl, fun n => odd_of "tuple" rfl rfl (w _ (.inl rfl)) (among_no (w _ (.inl rfl))) (among_no (w _ (.inl rfl)))⟩
  | 7, _ => exact ⟨.int (-2), rfl, fun n => odd_of "int" rfl rfl (whole_int (-2)) (among_int ..) (among_int ..)⟩
end K01
namespace K01
open PySem L2 Mi
variable {n : Nat} {st : Store}
section
variable {ρ : Rho} {st1 : Store}
theorem run_for {it : M (List D)} {t : Tgt} {b : MS} {ds : List D} {r : OS} (hi : it ρ st = .ok ds st1) (h : forGo t b ds ρ st1 = r) : sFor it t b ρ st = r := by
  unfold sFor
  rw [hi]
  exact h
theorem run_items {a : M D} {d : D} {xs : List D} (h : a ρ st = .ok d st1) (hd : itemsD d = some xs) : mItems a ρ st = .ok xs st1 := by
  rw [r_items, h, O_bind_ok, hd]
end
theorem res_fine : ∀ w ∈ RES, w ≠ "" ∧ 32 ∉ w.cps.toList ∧ w.length ≤ 10 := by decide +kernel
theorem replC_free (l : List Nat) : 32 ∉ replC 32 [] l := by
  unfold replC
  intro h
  obtain ⟨a, _, ha⟩ := List.mem_flatMap.mp h
  split at ha
  · cases ha
  · rename_i e; exact e (List.mem_singleton.mp ha).symm
theorem replC_len : ∀ l : List Nat, (replC 32 [] l).length ≤ l.length
  | [] => Nat.le_refl _
  | a :: r => by
    have ih := replC_len r
    unfold replC at *
    rw [List.flatMap_cons, List.length_append, List.length_cons]
    split <;> simp only [List.length_nil, List.length_singleton] <;> omega
/-- the five texts of a cell -/
theorem five {script words cell number word own odd due big x : Option D} {ds : List D} (h : ∀ d ∈ ds, ∃ s : Str, d = .str s ∧ s.length ≤ sizeLine) :
    ∃ y, forGo (.one 6) (sIf (mNotT (mTru (mCall 1 (cF (n + 3) 11) (mCons (mVar 6) mNil)))) (sRet (mC (.bl false))) sNil) ds [script, words, cell, number, word, own, x, odd, due, big] st = .nx [script, words, cell, number, word, own, y, odd, due, big] st := by
  obtain ⟨ρ', st', h1, h2, h3, h4⟩ := forGo_inv (t := .one 6) (b := sIf (mNotT (mTru (mCall 1 (cF (n + 3) 11) (mCons (mVar 6) mNil)))) (sRet (mC (.bl false))) sNil)
    (fun r ρ st' => st' = st ∧ (∃ y, ρ = [script, words, cell, number, word, own, y, odd, due, big]) ∧ ∀ d ∈ r, ∃ s : Str, d = .str s ∧ s.length ≤ sizeLine) (by
      rintro d r ρ st' ⟨rfl, ⟨y, rfl⟩, h⟩
      obtain ⟨s, rfl, hs⟩ := h d (List.mem_cons_self ..)
      exact ⟨_, _, _, rfl, .inl (run_skip (run_notT (v := true) (run_tru (run_call1 rfl (one_run s hs)) rfl))), rfl, ⟨_, rfl⟩, fun d hd => h d (List.mem_cons_of_mem _ hd)⟩) (ds := ds) (ρ := [script, words, cell, number, word, own, x, odd, due, big]) (st := st) ⟨rfl, ⟨_, rfl⟩, h⟩
  obtain ⟨y, rfl⟩ := h3
  subst h2
  exact ⟨y, h1⟩
theorem small_str : ∀ k ∈ List.range 12, (Str.ofString (toString (k : Int))).length ≤ 2 := by decide +kernel
theorem str_small {i : Int} (h0 : 0 ≤ i) (h1 : i < 12) : ∃ s : Str, dStr [.int i] st = .ok (.str s) st ∧ s.length ≤ 2 := by
  refine ⟨Str.ofString (toString i), ?_, ?_⟩
  · unfold dStr
    dsimp only
    rw [if_pos ⟨h0, by omega⟩]
  · have := small_str i.toNat (List.mem_range.mpr (by omega))
    rwa [Int.toNat_of_nonneg h0] at this
def tails : List Str := ["", "\n", "\nb"]
theorem tail_at {i : Int} (h0 : 0 ≤ i) (h1 : i < 3) : ∃ s ∈ tails, dIx (.lst (tails.map D.str)) (.int i) st = .ok (.str s) st := by
  obtain ⟨d, hd, hm⟩ := ix_lst (st := st) (xs := tails.map D.str) h0 h1
  obtain ⟨s, hs, rfl⟩ := List.mem_map.mp hm
  exact ⟨s, hs, hd⟩
theorem tails_fine : ∀ s ∈ tails, 32 ∉ s.cps.toList ∧ s.length ≤ 2 := by decide +kernel
theorem res_at {i : Int} (h0 : 0 ≤ i) (h1 : i < 39) : ∃ s ∈ RES, dIx (.lst (RES.map D.str)) (.int i) st = .ok (.str s) st := by
  obtain ⟨d, hd, hm⟩ := ix_lst (st := st) (xs := RES.map D.str) h0 h1
  obtain ⟨s, hs, rfl⟩ := List.mem_map.mp hm
  exact ⟨s, hs, hd⟩
theorem in27 : ∀ r < 8, dIn false (.int ((r : Nat) : Int)) (.tup [.int 2, .int 7]) st = .ok (.bl (r == 2 || r == 7)) st
  | 0, _ => rfl
  | 1, _ => rfl
  | 2, _ => rfl
  | 3, _ => rfl
  | 4, _ => rfl
  | 5, _ => rfl
  | 6, _ => rfl
  | 7, _ => rfl
theorem lst_add {xs ys : List D} (h : xs.length + ys.length ≤ 1000000) : dAdd false (.lst xs) (.lst ys) st = .ok (.lst (xs ++ ys)) st := by
  show mkL false (xs ++ ys) st = _
  exact mkLf (by rw [List.length_append]; exact h)
abbrev stepB (cF' : Nat → Fn) : MS := (sSeq (sAsg (mCall 2 (cF' 7) (mCons (mVar 2) (mCons (mC (.int 1)) mNil))) (.one 3))
    (sSeq (sAsg (mCall 1 (cF' 9) (mCons (mVar 3) mNil)) (.one 4))
    (sSeq (sAsg (mBin dIx (mCall 0 (cF' 8) mNil) (mBin dMod (mVar 3) (mC (.int 39)))) (.one 5))
    (sSeq (sFor (mItems (mLst false (mCons (mVar 4) (mCons (mVar 5) (mCons (mBin (dAdd false) (mVar 5) (mC (.str "s"))) (mCons (mApp dStr (mCons (mBin dMod (mVar 3) (mC (.int 12))) mNil)) (mCons (mBin dIx (mC (.str "0123456789-+x")) (mBin dMod (mVar 3) (mC (.int 13)))) mNil))))))) (.one 6) (sIf (mNotT (mTru (mCall 1 (cF' 11) (mCons (mVar 6) mNil)))) (sRet (mC (.bl false))) sNil))
    (sSeq (sAsg (mBin (dAdd false) (mVar 1) (mLst false (mCons (mVar 5) (mCons (mBin (dAdd false) (mBin (dAdd false) (mC (.str "a")) (mUn (dRepl 32 "") (mVar 4))) (mBin dIx (mLst false (mCons (mC (.str "")) (mCons (mC (.str "\n")) (mCons (mC (.str "\nb")) mNil)))) (mBin dMod (mVar 3) (mC (.int 3))))) mNil)))) (.one 1))
    (sSeq (sAsg (mBin dIx (mLst false (mCons (mC .non) (mCons (mC (.bl true)) (mCons (mC (.int 7)) (mCons (mLst false mNil) (mCons (mLst false (mCons (mC (.str "a")) mNil)) (mCons (fun _ st => mkD false [] st) (mCons (mTup (mCons (mC (.str "a")) mNil)) (mCons (mUn dNeg (mC (.int 2))) mNil))))))))) (mBin dMod (mVar 2) (mC (.int 8)))) (.one 7))
    (sSeq (sIf (mOrT (mTest (mBin (dIs true) (mCall 1 (cF' 2) (mCons (mVar 7) mNil)) (mC (.bl false)))) (mOrT (mTest (mBin (dIs true) (mCall 1 (cF' 3) (mCons (mVar 7) mNil)) (mC (.bl false)))) (mTest (mBin (dIs true) (mCall 1 (cF' 4) (mCons (mVar 7) mNil)) (mC (.bl false)))))) (sRet (mC (.bl false))) sNil)
    (sSeq (sIf (mOrT (mTest (mBin (dIs true) (mCall 1 (cF' 5) (mCons (mVar 7) mNil)) (mC .non))) (mTest (mBin (dIs true) (mCall 1 (cF' 6) (mCons (mVar 7) mNil)) (mC .non)))) (sRet (mC (.bl false))) sNil)
    (sSeq (sAsg (mBin (dIn false) (mBin dMod (mVar 2) (mC (.int 8))) (mTup (mCons (mC (.int 2)) (mCons (mC (.int 7)) mNil)))) (.one 8))
    (sSeq (sIf (mOrT (mTest (mBin (dEq true) (mCall 1 (cF' 0) (mCons (mVar 7) mNil)) (mVar 8))) (mOrT (mTest (mBin (dEq true) (mCall 3 (cF' 1) (mCons (mVar 7) (mCons (mUn dNeg (mC (.int 2))) (mCons (mC (.int 7)) mNil)))) (mVar 8))) (mTest (mBin (dIs true) (mCall 3 (cF' 1) (mCons (mVar 7) (mCons (mUn dNeg (mC (.int 1))) (mCons (mC (.int 6)) mNil)))) (mC (.bl false)))))) (sRet (mC (.bl false))) sNil)
    (sSeq (sAsg (mBin dMod (mVar 2) (mBin dPow (mC (.int 10)) (mC (.int 60)))) (.one 9))
    (sIf (mOrT (mTest (mBin (dIs true) (mCall 3 (cF' 1) (mCons (mVar 9) (mCons (mBin dSub (mVar 9) (mC (.int 1))) (mCons (mVar 9) mNil)))) (mC (.bl true)))) (mTest (mBin (dIs true) (mCall 3 (cF' 1) (mCons (mVar 9) (mCons (mBin (dAdd false) (mVar 9) (mC (.int 1))) (mCons (mBin (dAdd false) (mVar 9) (mC (.int 2))) mNil)))) (mC (.bl false))))) (sRet (mC (.bl false))) sNil))))))))))))
theorem am_yes (i : Int) : cF (n + 2) 1 [.int i, .int (i - 1), .int i] st = .ok (.bl true) st := (among_int i (i - 1) i).trans (by rw [decide_eq_true ⟨by omega, by omega⟩])
theorem am_no (i : Int) : cF (n + 2) 1 [.int i, .int (i + 1), .int (i + 2)] st = .ok (.bl false) st := (among_int i (i + 1) (i + 2)).trans (by rw [decide_eq_false (by omega)])
def tenS : Int := 10 ^ 60
theorem pow_run : dPow (.int 10) (.int 60) st = .ok (.int tenS) st := by
  unfold dPow
  dsimp only
  rw [if_pos ⟨by decide, by decide, by decide⟩]
  rfl
theorem step_run {sc : Option D} {ws : List Str} {c : Int} {a3 a4 a5 a6 a7 a8 a9 : Option D} (hw : ∀ w ∈ ws, w ≠ "" ∧ 32 ∉ w.cps.toList ∧ w.length ≤ 40) (hl : ws.length ≤ 1000) :
    ∃ (ws' : List Str) (b3 b4 b5 b6 b7 b8 b9 : Option D), stepB (cF (n + 3)) [sc, some (.lst (ws.map D.str)), some (.int c), a3, a4, a5, a6, a7, a8, a9] st = .nx [sc, some (.lst (ws'.map D.str)), some (.int c), b3, b4, b5, b6, b7, b8, b9] st ∧ (∀ w ∈ ws', w ≠ "" ∧ 32 ∉ w.cps.toList ∧ w.length ≤ 40) ∧ ws' ≠ [] ∧ ws'.length = ws.length + 2 := by
  have hm := mx_le c 1
  generalize hmx : mx c 1 = m at hm
  obtain ⟨w, hwl, hwr⟩ := written_run (n := n + 1) (st := st) hm.1
  obtain ⟨own, ho, hor⟩ := res_at (st := st) (i := m % 39) (Int.emod_nonneg _ (by decide)) (Int.emod_lt_of_pos _ (by decide))
  have hof := res_fine own ho
  obtain ⟨z, hz, hzl⟩ := str_small (st := st) (i := m % 12) (Int.emod_nonneg _ (by decide)) (Int.emod_lt_of_pos _ (by decide))
  obtain ⟨ch, hch, _⟩ := ix_str (st := st) (s := "0123456789-+x") (i := m % 13) (Int.emod_nonneg _ (by decide)) (Int.emod_lt_of_pos _ (by decide))
  obtain ⟨tl, htl, htr⟩ := tail_at (st := st) (i := m % 3) (Int.emod_nonneg _ (by decide)) (Int.emod_lt_of_pos _ (by decide))
  have htf := tails_fine tl htl
  have hc8 : 0 ≤ c % 8 ∧ c % 8 < 8 := ⟨Int.emod_nonneg _ (by decide), Int.emod_lt_of_pos _ (by decide)⟩
  obtain ⟨r, hr⟩ : ∃ r : Nat, c % 8 = r := ⟨(c % 8).toNat, by omega⟩
  have hr8 : r < 8 := by omega
  obtain ⟨d, hd, od⟩ := odd_all (st := st) r hr8
  have e1 : ("s" : Str).length = 1 := rfl
  have e2 : ("a" : Str).length = 1 := rfl
  let rp : Str := ⟨(replC 32 [] w.cps.toList).toArray⟩
  have hrp : rp.length ≤ 30 := show (replC 32 [] w.cps.toList).length ≤ 30 from Nat.le_trans (replC_len _) hwl
  have hrpf : 32 ∉ rp.cps.toList := by
    show 32 ∉ ((replC 32 [] w.cps.toList).toArray).toList
    exact replC_free _
  have hrr : dRepl 32 "" (.str w) st = .ok (.str rp) st := by
    show (if w.length + (w.length + 1) * ("" : Str).length ≤ 16777216 then O.ok (D.str ⟨(replC 32 ("" : Str).cps.toList w.cps.toList).toArray⟩) st else .no) = _
    rw [if_pos (by show w.length + (w.length + 1) * 0 ≤ _; omega)]
    rfl
  have hpow : (0 : Int) < tenS := by decide +kernel
  obtain ⟨y6, h6⟩ := five (n := n) (st := st) (script := sc) (words := some (.lst (ws.map D.str))) (cell := some (.int c)) (number := some (.int m)) (word := some (.str w)) (own := some (.str own)) (odd := a7) (due := a8) (big := a9) (x := a6) (ds := [.str w, .str own, .str (own ++ "s"), .str z, .str ⟨#[ch]⟩]) (by
    intro d hd
    simp only [List.mem_cons, List.not_mem_nil, or_false] at hd
    rcases hd with rfl | rfl | rfl | rfl | rfl
    · exact ⟨_, rfl, by unfold sizeLine; omega⟩
    · exact ⟨_, rfl, by unfold sizeLine; omega⟩
    · exact ⟨_, rfl, by rw [Str.length_append, e1]; unfold sizeLine; omega⟩
    · exact ⟨_, rfl, by unfold sizeLine; omega⟩
    · exact ⟨_, rfl, by show 1 ≤ _; unfold sizeLine; omega⟩)
  have hlast : ("a" ++ rp ++ tl : Str).length ≤ 40 := by rw [Str.length_append, Str.length_append, e2]; omega
  refine ⟨ws ++ [own, "a" ++ rp ++ tl], some (.int m), some (.str w), some (.str own), y6, some d, some (.bl (r == 2 || r == 7)), some (.int (c % tenS)), ?_, ?_, ?_, ?_⟩
  · rw [List.map_append]
    refine run_seq (run_asg (run_call2 rfl rfl (mixed_run (by decide) (by decide)))) ?_
    rw [hmx]
    refine run_seq (run_asg (run_call1 rfl hwr)) ?_
    refine run_seq (run_asg (run_bin (run_call rfl rfl reserved_run) (run_bin rfl rfl (mod_run (by decide))) hor)) ?_
    refine run_seq (ρ1 := [sc, some (.lst (ws.map D.str)), some (.int c), some (.int m), some (.str w), some (.str own), y6, a7, a8, a9]) (st1 := st) ?_ ?_
    · exact run_for (run_items (run_lst (run_cons rfl (run_cons rfl (run_cons (run_bin rfl rfl (add_str (by rw [e1]; omega))) (run_cons (run_app1 (run_bin rfl rfl (mod_run (by decide))) hz) (run_args1 (run_bin rfl (run_bin rfl rfl (mod_run (by decide))) hch)))))) (show 5 ≤ sizeLine by decide)) rfl) h6
    refine run_seq (run_asg (run_bin rfl (run_lst (run_cons rfl (run_args1 (run_bin (run_bin rfl (run_un rfl hrr) (add_str (by rw [e2]; omega))) (run_bin rfl (run_bin rfl rfl (mod_run (by decide))) htr) (add_str (by rw [Str.length_append, e2]; omega))))) (show 2 ≤ sizeLine by decide)) (lst_add (by rw [List.length_map]; show _ + 2 ≤ _; omega)))) ?_
    have hdx : dIx (.lst odds) (.int (c % 8)) st = .ok d st := by
      rw [hr]
      show (match atI odds (r : Int) with
        | some c => O.ok c st
        | none => .no) = _
      rw [hd]
    refine run_seq (run_asg (run_bin (x := .lst odds) rfl (run_bin rfl rfl (mod_run (by decide))) hdx)) ?_
    refine run_seq (run_skip (run_orF (run_test (run_bin (run_call1 rfl (od _).a2) rfl rfl)) (run_orF (run_test (run_bin (run_call1 rfl (od _).a3) rfl rfl)) (run_test (run_bin (run_call1 rfl (od (n + 1)).a4) rfl rfl))))) ?_
    refine run_seq (run_skip (run_orF (run_test (run_bin (run_call1 rfl (od _).a5) rfl rfl)) (run_test (run_bin (run_call1 rfl (od _).a6) rfl rfl)))) ?_
    refine run_seq (run_asg (run_bin (run_bin rfl rfl ((mod_run (by decide)).trans (by rw [hr]))) rfl (in27 r hr8))) ?_
    have ew : ∀ b : Bool, sgn true (decide (b = b)) = false := fun b => by simp
    refine run_seq (run_skip (run_orF (run_test (run_bin (run_call1 rfl (od _).a0) rfl ((e_bls ..).trans (by rw [ew])))) (run_orF (run_test (run_bin (run_call (run_cons rfl (run_cons rfl (run_args1 rfl))) rfl (od (n + 1)).a1) rfl ((e_bls ..).trans (by rw [ew])))) (run_test (run_bin (run_call (run_cons rfl (run_cons rfl (run_args1 rfl))) rfl (od (n + 1)).a1') rfl rfl))))) ?_
    refine run_seq (run_asg (run_bin rfl (run_bin rfl rfl pow_run) (mod_run hpow))) ?_
    refine run_skip (run_orF (st1 := st) (run_test ?_) (run_test ?_))
    · exact run_bin (run_call (run_cons rfl (run_cons (run_bin rfl rfl (s_ints ..)) (run_args1 rfl))) rfl (am_yes (n := n + 1) _)) rfl rfl
    · exact run_bin (run_call (run_cons rfl (run_cons (run_bin rfl rfl (a_ints ..)) (run_args1 (run_bin rfl rfl (a_ints ..))))) rfl (am_no (n := n + 1) _)) rfl rfl
  · intro x hx
    rcases List.mem_append.mp hx with hx | hx
    · exact hw x hx
    · simp only [List.mem_cons, List.not_mem_nil, or_false] at hx
      rcases hx with rfl | rfl
      · exact ⟨hof.1, hof.2.1, by omega⟩
      · refine ⟨fun e => ?_, ?_, hlast⟩
        · have : (("a" : Str) ++ rp ++ tl).length = 0 := by rw [e]; rfl
          rw [Str.length_append, Str.length_append, e2] at this
          omega
        · rw [Str.cps_append, Str.cps_append, Array.toList_append, Array.toList_append, List.mem_append, List.mem_append]
          rintro ((h | h) | h)
          · exact absurd h (by decide +kernel)
          · exact hrpf h
          · exact htf.1 h
  · simp
  · simp
theorem intsD_map : ∀ ns : List Int, intsD (ns.map D.int) = some ns
  | [] => rfl
  | x :: r => by show (intsD (r.map D.int)).map _ = _; rw [intsD_map r]; rfl
theorem sum_run (ns : List Int) : dSum [.frz (ns.map D.int)] st = .ok (.int ns.sum) st := by
  show (match intsD (ns.map D.int) with
      | some ns => O.ok (D.int ns.sum) st
      | none => .no) = _
  rw [intsD_map]
theorem cutD_sub {xs : List D} {lo hi : Option Int} : (∀ d ∈ cutD xs lo hi, d ∈ xs) ∧ (cutD xs lo hi).length ≤ xs.length := by
  unfold cutD
  refine ⟨fun d hd => List.mem_of_mem_drop (List.mem_of_mem_take hd), ?_⟩
  rw [List.length_take, List.length_drop]
  omega
theorem law_true : ∀ ns : List Int, ns.length ≤ 63 → ∃ st', callF Gx Tx 6 13 [.frz (ns.map D.int)] [] = .ok (.bl true) st' := by
  intro ns hns
  let xs : List D := cutD (ns.map D.int) none (some 200) ++ [.int ns.sum]
  have hcut := cutD_sub (xs := ns.map D.int) (lo := none) (hi := some 200)
  have hxi : ∀ d ∈ xs, ∃ i : Int, d = .int i := fun d hd => by
    rcases List.mem_append.mp hd with hd | hd
    · obtain ⟨i, _, rfl⟩ := List.mem_map.mp (hcut.1 d hd); exact ⟨i, rfl⟩
    · exact ⟨_, List.mem_singleton.mp hd⟩
  have hcl : (cutD (ns.map D.int) none (some 200)).length ≤ 63 := Nat.le_trans hcut.2 (by rw [List.length_map]; exact hns)
  have hxl : xs.length ≤ 64 := by simp only [xs, List.length_append, List.length_singleton]; omega
  have hit : ∀ a1 a2 a3 a4 a5 a6 a7 a8 a9 : Option D, mItems (mBin (dAdd false) (mSl false (mVar 0) mNoPart (mPart (mC (.int 200)))) (mLst false (mCons (mApp dSum (mCons (mVar 0) mNil)) mNil))) [some (.frz (ns.map D.int)), a1, a2, a3, a4, a5, a6, a7, a8, a9] [] = .ok xs [] := fun a1 a2 a3 a4 a5 a6 a7 a8 a9 =>
    run_items (run_bin (x := .lst (cutD (ns.map D.int) none (some 200))) (mkLf (by omega)) (run_lst (run_args1 (run_app1 rfl (sum_run ns))) (show 1 ≤ sizeLine by decide)) (lst_add (by show _ + 1 ≤ _; omega))) rfl
  obtain ⟨ρ', st', h1, h2⟩ := forGo_inv (t := .one 2) (b := stepB (cF 5))
    (fun r ρ st => st = [] ∧ (∀ d ∈ r, ∃ i : Int, d = .int i) ∧ ∃ (ws : List Str) (a2 a3 a4 a5 a6 a7 a8 a9 : Option D), ρ = [some (.frz (ns.map D.int)), some (.lst (ws.map D.str)), a2, a3, a4, a5, a6, a7, a8, a9] ∧ (∀ w ∈ ws, w ≠ "" ∧ 32 ∉ w.cps.toList ∧ w.length ≤ 40) ∧ ws.length + 2 * r.length ≤ 128 ∧ (ws ≠ [] ∨ r ≠ [])) (by
      rintro d r ρ st ⟨rfl, hi, ws, a2, a3, a4, a5, a6, a7, a8, a9, rfl, hw, hl, hne⟩
      obtain ⟨i, rfl⟩ := hi d (List.mem_cons_self ..)
      rw [List.length_cons] at hl
      obtain ⟨ws', b3, b4, b5, b6, b7, b8, b9, hr, g1, g2, g3⟩ := step_run (n := 2) (st := []) (sc := some (.frz (ns.map D.int))) (ws := ws) (c := i) (a3 := a3) (a4 := a4) (a5 := a5) (a6 := a6) (a7 := a7) (a8 := a8) (a9 := a9) hw (by omega)
      exact ⟨_, _, _, rfl, .inl hr, rfl, fun d hd => hi d (List.mem_cons_of_mem _ hd), ws', _, _, _, _, _, _, _, _, rfl, g1, by omega, .inl g2⟩)
    (ds := xs) (ρ := [some (.frz (ns.map D.int)), some (.lst (([] : List Str).map D.str)), none, none, none, none, none, none, none, none]) (st := []) ⟨rfl, hxi, [], _, _, _, _, _, _, _, _, rfl, fun _ h => absurd h List.not_mem_nil, by rw [List.length_nil]; omega, .inr (by simp [xs])⟩
  obtain ⟨rfl, _, ws, a2, a3, a4, a5, a6, a7, a8, a9, rfl, hw, hl, hne⟩ := h2
  have g : Good ws := ⟨by rcases hne with h | h; exact h; exact absurd rfl h, hw, by omega⟩
  have hm := mx_le ns.sum 2
  refine ⟨[], ?_⟩
  rw [callF_at (fe := ⟨"law", s_law, N_law, p_law, true⟩) rfl, B_law]
  have hemp : cF 5 6 [.str ""] [] = .ok .non ([] ++ [.lst ((splitS 32 "").map D.str)]) := by
    rw [words_run (by decide)]
    rw [if_pos (by decide +kernel)]
  refine runF_cut (st := []) (ext := [.lst ((splitS 32 "").map D.str)]) (d := .bl true) (run_seq (run_asg rfl) (run_seq (run_for (hit ..) h1) (run_ret (run_andVT (run_bin (run_call1 rfl hemp) rfl rfl) rfl (run_call2 rfl (run_call2 (run_app1 rfl (sum_run ns)) rfl (mixed_run (by decide) (by decide))) (row_run g hm.1)))))) rfl
end K01
namespace K01
open PySem L2 Mi
/-! ### what the top has written; the law's own head (printed by gen.py) -/
theorem sc_is_whole : FnScope N_is_whole p_is_whole (defScope s_is_whole) := ⟨rfl, rfl, rfl, by decide +kernel, rfl, by decide +kernel, by decide +kernel⟩
theorem sc_is_among : FnScope N_is_among p_is_among (defScope s_is_among) := ⟨rfl, rfl, rfl, by decide +kernel, rfl, by decide +kernel, by decide +kernel⟩
theorem sc_is_word : FnScope N_is_word p_is_word (defScope s_is_word) := ⟨rfl, rfl, rfl, by decide +kernel, rfl, by decide +kernel, by decide +kernel⟩
theorem sc_is_reserved : FnScope N_is_reserved p_is_reserved (defScope s_is_reserved) := ⟨rfl, rfl, rfl, by decide +kernel, rfl, by decide +kernel, by decide +kernel⟩
theorem sc_is_name : FnScope N_is_name p_is_name (defScope s_is_name) := ⟨rfl, rfl, rfl, by decide +kernel, rfl, by decide +kernel, by decide +kernel⟩
theorem sc_digit_of : FnScope N_digit_of p_digit_of (defScope s_digit_of) := ⟨rfl, rfl, rfl, by decide +kernel, rfl, by decide +kernel, by decide +kernel⟩
theorem sc_words_of : FnScope N_words_of p_words_of (defScope s_words_of) := ⟨rfl, rfl, rfl, by decide +kernel, rfl, by decide +kernel, by decide +kernel⟩
theorem sc__law_mixed : FnScope N__law_mixed p__law_mixed (defScope s__law_mixed) := ⟨rfl, rfl, rfl, by decide +kernel, rfl, by decide +kernel, by decide +kernel⟩
theorem sc__law_reserved : FnScope N__law_reserved p__law_reserved (defScope s__law_reserved) := ⟨rfl, rfl, rfl, by decide +kernel, rfl, by decide +kernel, by decide +kernel⟩
theorem sc__law_written : FnScope N__law_written p__law_written (defScope s__law_written) := ⟨rfl, rfl, rfl, by decide +kernel, rfl, by decide +kernel, by decide +kernel⟩
theorem sc__law_small : FnScope N__law_small p__law_small (defScope s__law_small) := ⟨rfl, rfl, rfl, by decide +kernel, rfl, by decide +kernel, by decide +kernel⟩
theorem sc__law_one : FnScope N__law_one p__law_one (defScope s__law_one) := ⟨rfl, rfl, rfl, by decide +kernel, rfl, by decide +kernel, by decide +kernel⟩
theorem sc__law_row : FnScope N__law_row p__law_row (defScope s__law_row) := ⟨rfl, rfl, rfl, by decide +kernel, rfl, by decide +kernel, by decide +kernel⟩
theorem sc_law : FnScope N_law p_law (defScope s_law) := ⟨rfl, rfl, rfl, by decide +kernel, rfl, by decide +kernel, by decide +kernel⟩
theorem all_mk {l : PySem.W.OpenLaw} {w : World} {K : PySem.W.Frag} {h : Heap} {mg : Str → Option Value} {fa : Addr} (X : K.In h) (G : h.Ns mainGlobals mg) (hfa : mg "law" = some (.ref fa))
    {f0 f1 f2 f3 f4 f5 f6 f7 f8 f9 f10 f11 f12 f13 : Addr} {od0 an0 od1 an1 od2 an2 od3 an3 od4 an4 od5 an5 od6 an6 od7 an7 od8 an8 od9 an9 od10 an10 od11 an11 od12 an12 od13 an13 : Option Addr} {sl0 sl1 sl2 sl3 sl4 sl5 sl6 sl7 sl8 sl9 sl10 sl11 sl12 sl13 : Array (Option Value)} {oc0 kV0 dc0 pm0 cd0 ct0 oc1 kV1 dc1 pm1 cd1 ct1 oc2 kV2 dc2 pm2 cd2 ct2 oc3 kV3 dc3 pm3 cd3 ct3 oc4 kV4 dc4 pm4 cd4 ct4 oc5 kV5 dc5 pm5 cd5 ct5 oc6 kV6 dc6 pm6 cd6 ct6 oc7 kV7 dc7 pm7 cd7 ct7 oc8 kV8 dc8 pm8 cd8 ct8 oc9 kV9 dc9 pm9 cd9 ct9 oc10 kV10 dc10 pm10 cd10 ct10 oc11 kV11 dc11 pm11 cd11 ct11 oc12 kV12 dc12 pm12 cd12 ct12 oc13 kV13 dc13 pm13 cd13 ct13 : Value}
    {tk0 : Tok}
    {tk1 : Tok}
    {tk2 : Tok}
    {q3 : Addr} {qd3 : Option Addr} {qn3 : Nat} {qs3 : Array (Option Value)} {q3_0 q3_1 q3_2 q3_3 q3_4 q3_5 q3_6 q3_7 q3_8 q3_9 q3_10 q3_11 : Tok}
    {q4 : Addr} {qd4 : Option Addr} {qn4 : Nat} {qs4 : Array (Option Value)} {q4_0 q4_1 q4_2 q4_3 q4_4 q4_5 : Tok}
    {q5 : Addr} {qd5 : Option Addr} {qn5 : Nat} {qs5 : Array (Option Value)} {q5_0 q5_1 q5_2 q5_3 q5_4 q5_5 q5_6 q5_7 q5_8 q5_9 q5_10 q5_11 q5_12 q5_13 q5_14 : Tok}
    {q6 : Addr} {qd6 : Option Addr} {qn6 : Nat} {qs6 : Array (Option Value)} {q6_0 q6_1 q6_2 q6_3 q6_4 q6_5 : Tok}
    (a0 : PySem.W.nsIn K mainGlobals "is_whole" = some (some (.ref f0))) (l0 : K.lookup f0 = some ⟨oc0, od0, .func (PySem.W.fnOf "is_whole" "is_whole" (defArgs s_is_whole) (defBody s_is_whole) (defScope s_is_whole) .none kV0 dc0 pm0 an0 cd0 ct0), sl0⟩) (c0 : PySem.W.codeIn K cd0 "is_whole" = true) (k0 : PySem.W.keepIn K (.ref f0) = true)
    (a1 : PySem.W.nsIn K mainGlobals "is_among" = some (some (.ref f1))) (l1 : K.lookup f1 = some ⟨oc1, od1, .func (PySem.W.fnOf "is_among" "is_among" (defArgs s_is_among) (defBody s_is_among) (defScope s_is_among) .none kV1 dc1 pm1 an1 cd1 ct1), sl1⟩) (c1 : PySem.W.codeIn K cd1 "is_among" = true) (k1 : PySem.W.keepIn K (.ref f1) = true)
    (a2 : PySem.W.nsIn K mainGlobals "is_word" = some (some (.ref f2))) (l2 : K.lookup f2 = some ⟨oc2, od2, .func (PySem.W.fnOf "is_word" "is_word" (defArgs s_is_word) (defBody s_is_word) (defScope s_is_word) .none kV2 dc2 pm2 an2 cd2 ct2), sl2⟩) (c2 : PySem.W.codeIn K cd2 "is_word" = true) (k2 : PySem.W.keepIn K (.ref f2) = true)
    (a3 : PySem.W.nsIn K mainGlobals "is_reserved" = some (some (.ref f3))) (l3 : K.lookup f3 = some ⟨oc3, od3, .func (PySem.W.fnOf "is_reserved" "is_reserved" (defArgs s_is_reserved) (defBody s_is_reserved) (defScope s_is_reserved) .none kV3 dc3 pm3 an3 cd3 ct3), sl3⟩) (c3 : PySem.W.codeIn K cd3 "is_reserved" = true) (k3 : PySem.W.keepIn K (.ref f3) = true)
    (a4 : PySem.W.nsIn K mainGlobals "is_name" = some (some (.ref f4))) (l4 : K.lookup f4 = some ⟨oc4, od4, .func (PySem.W.fnOf "is_name" "is_name" (defArgs s_is_name) (defBody s_is_name) (defScope s_is_name) .none kV4 dc4 pm4 an4 cd4 ct4), sl4⟩) (c4 : PySem.W.codeIn K cd4 "is_name" = true) (k4 : PySem.W.keepIn K (.ref f4) = true)
    (a5 : PySem.W.nsIn K mainGlobals "digit_of" = some (some (.ref f5))) (l5 : K.lookup f5 = some ⟨oc5, od5, .func (PySem.W.fnOf "digit_of" "digit_of" (defArgs s_digit_of) (defBody s_digit_of) (defScope s_digit_of) .none kV5 dc5 pm5 an5 cd5 ct5), sl5⟩) (c5 : PySem.W.codeIn K cd5 "digit_of" = true) (k5 : PySem.W.keepIn K (.ref f5) = true)
    (a6 : PySem.W.nsIn K mainGlobals "words_of" = some (some (.ref f6))) (l6 : K.lookup f6 = some ⟨oc6, od6, .func (PySem.W.fnOf "words_of" "words_of" (defArgs s_words_of) (defBody s_words_of) (defScope s_words_of) .none kV6 dc6 pm6 an6 cd6 ct6), sl6⟩) (c6 : PySem.W.codeIn K cd6 "words_of" = true) (k6 : PySem.W.keepIn K (.ref f6) = true)
    (a7 : PySem.W.nsIn K mainGlobals "_law_mixed" = some (some (.ref f7))) (l7 : K.lookup f7 = some ⟨oc7, od7, .func (PySem.W.fnOf "_law_mixed" "_law_mixed" (defArgs s__law_mixed) (defBody s__law_mixed) (defScope s__law_mixed) .none kV7 dc7 pm7 an7 cd7 ct7), sl7⟩) (c7 : PySem.W.codeIn K cd7 "_law_mixed" = true) (k7 : PySem.W.keepIn K (.ref f7) = true)
    (a8 : PySem.W.nsIn K mainGlobals "_law_reserved" = some (some (.ref f8))) (l8 : K.lookup f8 = some ⟨oc8, od8, .func (PySem.W.fnOf "_law_reserved" "_law_reserved" (defArgs s__law_reserved) (defBody s__law_reserved) (defScope s__law_reserved) .none kV8 dc8 pm8 an8 cd8 ct8), sl8⟩) (c8 : PySem.W.codeIn K cd8 "_law_reserved" = true) (k8 : PySem.W.keepIn K (.ref f8) = true)
    (a9 : PySem.W.nsIn K mainGlobals "_law_written" = some (some (.ref f9))) (l9 : K.lookup f9 = some ⟨oc9, od9, .func (PySem.W.fnOf "_law_written" "_law_written" (defArgs s__law_written) (defBody s__law_written) (defScope s__law_written) .none kV9 dc9 pm9 an9 cd9 ct9), sl9⟩) (c9 : PySem.W.codeIn K cd9 "_law_written" = true) (k9 : PySem.W.keepIn K (.ref f9) = true)
    (a10 : PySem.W.nsIn K mainGlobals "_law_small" = some (some (.ref f10))) (l10 : K.lookup f10 = some ⟨oc10, od10, .func (PySem.W.fnOf "_law_small" "_law_small" (defArgs s__law_small) (defBody s__law_small) (defScope s__law_small) .none kV10 dc10 pm10 an10 cd10 ct10), sl10⟩) (c10 : PySem.W.codeIn K cd10 "_law_small" = true) (k10 : PySem.W.keepIn K (.ref f10) = true)
    (a11 : PySem.W.nsIn K mainGlobals "_law_one" = some (some (.ref f11))) (l11 : K.lookup f11 = some ⟨oc11, od11, .func (PySem.W.fnOf "_law_one" "_law_one" (defArgs s__law_one) (defBody s__law_one) (defScope s__law_one) .none kV11 dc11 pm11 an11 cd11 ct11), sl11⟩) (c11 : PySem.W.codeIn K cd11 "_law_one" = true) (k11 : PySem.W.keepIn K (.ref f11) = true)
    (a12 : PySem.W.nsIn K mainGlobals "_law_row" = some (some (.ref f12))) (l12 : K.lookup f12 = some ⟨oc12, od12, .func (PySem.W.fnOf "_law_row" "_law_row" (defArgs s__law_row) (defBody s__law_row) (defScope s__law_row) .none kV12 dc12 pm12 an12 cd12 ct12), sl12⟩) (c12 : PySem.W.codeIn K cd12 "_law_row" = true) (k12 : PySem.W.keepIn K (.ref f12) = true)
    (a13 : PySem.W.nsIn K mainGlobals "law" = some (some (.ref f13))) (l13 : K.lookup f13 = some ⟨oc13, od13, .func (PySem.W.fnOf "law" "law" (defArgs s_law) (defBody s_law) (defScope s_law) .none kV13 dc13 pm13 an13 cd13 ct13), sl13⟩) (c13 : PySem.W.codeIn K cd13 "law" = true) (k13 : PySem.W.keepIn K (.ref f13) = true)
    (g0 : PySem.W.nsIn K mainGlobals "LETTERS" = some (some (.str "abcdefghijklmnopqrstuvwxyz" tk0)))
    (g1 : PySem.W.nsIn K mainGlobals "FIGURES" = some (some (.str "0123456789" tk1)))
    (g2 : PySem.W.nsIn K mainGlobals "MOST_LETTERS" = some (some (.int 8 tk2)))
    (g3 : PySem.W.nsIn K mainGlobals "VERBS" = some (some (.ref q3))) (h3 : K.lookup q3 = some ⟨.type "tuple", qd3, .seq #[.str "take" q3_0, .str "drop" q3_1, .str "put" q3_2, .str "open" q3_3, .str "shut" q3_4, .str "wear" q3_5, .str "doff" q3_6, .str "look" q3_7, .str "go" q3_8, .str "list" q3_9, .str "wait" q3_10, .str "undo" q3_11] qn3, qs3⟩)
    (g4 : PySem.W.nsIn K mainGlobals "DIRECTIONS" = some (some (.ref q4))) (h4 : K.lookup q4 = some ⟨.type "tuple", qd4, .seq #[.str "down" q4_0, .str "east" q4_1, .str "north" q4_2, .str "south" q4_3, .str "up" q4_4, .str "west" q4_5] qn4, qs4⟩)
    (g5 : PySem.W.nsIn K mainGlobals "SMALL" = some (some (.ref q5))) (h5 : K.lookup q5 = some ⟨.type "tuple", qd5, .seq #[.str "the" q5_0, .str "all" q5_1, .str "but" q5_2, .str "and" q5_3, .str "then" q5_4, .str "it" q5_5, .str "them" q5_6, .str "in" q5_7, .str "on" q5_8, .str "is" q5_9, .str "at" q5_10, .str "you" q5_11, .str "with" q5_12, .str "not" q5_13, .str "nowhere" q5_14] qn5, qs5⟩)
    (g6 : PySem.W.nsIn K mainGlobals "OTHERS" = some (some (.ref q6))) (h6 : K.lookup q6 = some ⟨.type "tuple", qd6, .seq #[.str "always" q6_0, .str "any" q6_1, .str "say" q6_2, .str "set" q6_3, .str "move" q6_4, .str "stop" q6_5] qn6, qs6⟩)
    (z0 : PySem.W.nsIn K mainGlobals "len" = some none)
    (z1 : PySem.W.nsIn K mainGlobals "list" = some none)
    (z2 : PySem.W.nsIn K mainGlobals "int" = some none)
    (z3 : PySem.W.nsIn K mainGlobals "str" = some none)
    (z4 : PySem.W.nsIn K mainGlobals "sum" = some none)
    (z5 : PySem.W.nsIn K mainGlobals "all" = some none)
    (z6 : PySem.W.nsIn K mainGlobals "isinstance" = some none)
    (z7 : PySem.W.nsIn K mainGlobals "range" = some none)
    (z8 : PySem.W.nsIn K mainGlobals "bool" = some none) :
    ∃ fd : FuncData, (∀ (s : Shared) (v : Value), BindsTo s fd ⟨[v], []⟩ [("_law_script", v)]) ∧ ∀ base : Heap, K.In base → base.Ns mainGlobals mg → FnOk l.prog w K mg base (L2.CX l.prog w) (lev 6) fa fd ["_law_script"] (spLaw K) := by
  have e := hfa.symm.trans (PySem.W.mg_of X G a13)
  cases e
  have F0 := fun_mk (st := s_is_whole) l0 c0 k0
  have b0 := F0.binds (ps := p_is_whole) fun _ _ _ _ _ _ us hl => match us, hl with | [_], _ => rfl
  have F1 := fun_mk (st := s_is_among) l1 c1 k1
  have b1 := F1.binds (ps := p_is_among) fun _ _ _ _ _ _ us hl => match us, hl with | [_, _, _], _ => rfl
  have F2 := fun_mk (st := s_is_word) l2 c2 k2
  have b2 := F2.binds (ps := p_is_word) fun _ _ _ _ _ _ us hl => match us, hl with | [_], _ => rfl
  have F3 := fun_mk (st := s_is_reserved) l3 c3 k3
  have b3 := F3.binds (ps := p_is_reserved) fun _ _ _ _ _ _ us hl => match us, hl with | [_], _ => rfl
  have F4 := fun_mk (st := s_is_name) l4 c4 k4
  have b4 := F4.binds (ps := p_is_name) fun _ _ _ _ _ _ us hl => match us, hl with | [_], _ => rfl
  have F5 := fun_mk (st := s_digit_of) l5 c5 k5
  have b5 := F5.binds (ps := p_digit_of) fun _ _ _ _ _ _ us hl => match us, hl with | [_], _ => rfl
  have F6 := fun_mk (st := s_words_of) l6 c6 k6
  have b6 := F6.binds (ps := p_words_of) fun _ _ _ _ _ _ us hl => match us, hl with | [_], _ => rfl
  have F7 := fun_mk (st := s__law_mixed) l7 c7 k7
  have b7 := F7.binds (ps := p__law_mixed) fun _ _ _ _ _ _ us hl => match us, hl with | [_, _], _ => rfl
  have F8 := fun_mk (st := s__law_reserved) l8 c8 k8
  have b8 := F8.binds (ps := p__law_reserved) fun _ _ _ _ _ _ us hl => match us, hl with | [], _ => rfl
  have F9 := fun_mk (st := s__law_written) l9 c9 k9
  have b9 := F9.binds (ps := p__law_written) fun _ _ _ _ _ _ us hl => match us, hl with | [_], _ => rfl
  have F10 := fun_mk (st := s__law_small) l10 c10 k10
  have b10 := F10.binds (ps := p__law_small) fun _ _ _ _ _ _ us hl => match us, hl with | [_], _ => rfl
  have F11 := fun_mk (st := s__law_one) l11 c11 k11
  have b11 := F11.binds (ps := p__law_one) fun _ _ _ _ _ _ us hl => match us, hl with | [_], _ => rfl
  have F12 := fun_mk (st := s__law_row) l12 c12 k12
  have b12 := F12.binds (ps := p__law_row) fun _ _ _ _ _ _ us hl => match us, hl with | [_, _], _ => rfl
  have F13 := fun_mk (st := s_law) l13 c13 k13
  refine ⟨PySem.W.fnOf "law" "law" (defArgs s_law) (defBody s_law) (defScope s_law) .none kV13 dc13 pm13 an13 cd13 ct13, fun s v => .of_eq rfl, fun base _ _ => ?_⟩
  have bL := F13.binds (ps := p_law) fun _ _ _ _ _ _ us hl => match us, hl with | [_], _ => rfl
  have hcon : AllL (fun p : Str × D => ∃ u v, mg p.1 = some u ∧ RelV v u ∧ ∀ n μ H, Dat K n μ H v p.2) conT := (.cons ⟨_, .str "abcdefghijklmnopqrstuvwxyz", PySem.W.mg_of X G g0, ⟨_, rfl⟩, fun _ _ _ => .str (by decide +kernel) (by decide +kernel)⟩ (.cons ⟨_, .str "0123456789", PySem.W.mg_of X G g1, ⟨_, rfl⟩, fun _ _ _ => .str (by decide +kernel) (by decide +kernel)⟩ (.cons ⟨_, .int 8, PySem.W.mg_of X G g2, ⟨_, rfl⟩, fun _ _ _ => .int _⟩ (.cons ⟨_, .ref q3, PySem.W.mg_of X G g3, rfl, con_tup (vs := [.str "take", .str "drop", .str "put", .str "open", .str "shut", .str "wear", .str "doff", .str "look", .str "go", .str "list", .str "wait", .str "undo"]) h3 rfl rfl (by show 12 ≤ sizeLine; decide) (.cons ⟨_, rfl⟩ (.cons ⟨_, rfl⟩ (.cons ⟨_, rfl⟩ (.cons ⟨_, rfl⟩ (.cons ⟨_, rfl⟩ (.cons ⟨_, rfl⟩ (.cons ⟨_, rfl⟩ (.cons ⟨_, rfl⟩ (.cons ⟨_, rfl⟩ (.cons ⟨_, rfl⟩ (.cons ⟨_, rfl⟩ (.cons ⟨_, rfl⟩ .nil)))))))))))) (by decide +kernel) (fun _ _ _ => (.cons (.str (by decide +kernel) (by decide +kernel)) (.cons (.str (by decide +kernel) (by decide +kernel)) (.cons (.str (by decide +kernel) (by decide +kernel)) (.cons (.str (by decide +kernel) (by decide +kernel)) (.cons (.str (by decide +kernel) (by decide +kernel)) (.cons (.str (by decide +kernel) (by decide +kernel)) (.cons (.str (by decide +kernel) (by decide +kernel)) (.cons (.str (by decide +kernel) (by decide +kernel)) (.cons (.str (by decide +kernel) (by decide +kernel)) (.cons (.str (by decide +kernel) (by decide +kernel)) (.cons (.str (by decide +kernel) (by decide +kernel)) (.cons (.str (by decide +kernel) (by decide +kernel)) .nil)))))))))))))⟩ (.cons ⟨_, .ref q4, PySem.W.mg_of X G g4, rfl, con_tup (vs := [.str "down", .str "east", .str "north", .str "south", .str "up", .str "west"]) h4 rfl rfl (by show 6 ≤ sizeLine; decide) (.cons ⟨_, rfl⟩ (.cons ⟨_, rfl⟩ (.cons ⟨_, rfl⟩ (.cons ⟨_, rfl⟩ (.cons ⟨_, rfl⟩ (.cons ⟨_, rfl⟩ .nil)))))) (by decide +kernel) (fun _ _ _ => (.cons (.str (by decide +kernel) (by decide +kernel)) (.cons (.str (by decide +kernel) (by decide +kernel)) (.cons (.str (by decide +kernel) (by decide +kernel)) (.cons (.str (by decide +kernel) (by decide +kernel)) (.cons (.str (by decide +kernel) (by decide +kernel)) (.cons (.str (by decide +kernel) (by decide +kernel)) .nil)))))))⟩ (.cons ⟨_, .ref q5, PySem.W.mg_of X G g5, rfl, con_tup (vs := [.str "the", .str "all", .str "but", .str "and", .str "then", .str "it", .str "them", .str "in", .str "on", .str "is", .str "at", .str "you", .str "with", .str "not", .str "nowhere"]) h5 rfl rfl (by show 15 ≤ sizeLine; decide) (.cons ⟨_, rfl⟩ (.cons ⟨_, rfl⟩ (.cons ⟨_, rfl⟩ (.cons ⟨_, rfl⟩ (.cons ⟨_, rfl⟩ (.cons ⟨_, rfl⟩ (.cons ⟨_, rfl⟩ (.cons ⟨_, rfl⟩ (.cons ⟨_, rfl⟩ (.cons ⟨_, rfl⟩ (.cons ⟨_, rfl⟩ (.cons ⟨_, rfl⟩ (.cons ⟨_, rfl⟩ (.cons ⟨_, rfl⟩ (.cons ⟨_, rfl⟩ .nil))))))))))))))) (by decide +kernel) (fun _ _ _ => (.cons (.str (by decide +kernel) (by decide +kernel)) (.cons (.str (by decide +kernel) (by decide +kernel)) (.cons (.str (by decide +kernel) (by decide +kernel)) (.cons (.str (by decide +kernel) (by decide +kernel)) (.cons (.str (by decide +kernel) (by decide +kernel)) (.cons (.str (by decide +kernel) (by decide +kernel)) (.cons (.str (by decide +kernel) (by decide +kernel)) (.cons (.str (by decide +kernel) (by decide +kernel)) (.cons (.str (by decide +kernel) (by decide +kernel)) (.cons (.str (by decide +kernel) (by decide +kernel)) (.cons (.str (by decide +kernel) (by decide +kernel)) (.cons (.str (by decide +kernel) (by decide +kernel)) (.cons (.str (by decide +kernel) (by decide +kernel)) (.cons (.str (by decide +kernel) (by decide +kernel)) (.cons (.str (by decide +kernel) (by decide +kernel)) .nil))))))))))))))))⟩ (.cons ⟨_, .ref q6, PySem.W.mg_of X G g6, rfl, con_tup (vs := [.str "always", .str "any", .str "say", .str "set", .str "move", .str "stop"]) h6 rfl rfl (by show 6 ≤ sizeLine; decide) (.cons ⟨_, rfl⟩ (.cons ⟨_, rfl⟩ (.cons ⟨_, rfl⟩ (.cons ⟨_, rfl⟩ (.cons ⟨_, rfl⟩ (.cons ⟨_, rfl⟩ .nil)))))) (by decide +kernel) (fun _ _ _ => (.cons (.str (by decide +kernel) (by decide +kernel)) (.cons (.str (by decide +kernel) (by decide +kernel)) (.cons (.str (by decide +kernel) (by decide +kernel)) (.cons (.str (by decide +kernel) (by decide +kernel)) (.cons (.str (by decide +kernel) (by decide +kernel)) (.cons (.str (by decide +kernel) (by decide +kernel)) .nil)))))))⟩ .nil)))))))
  have hnob : AllL (fun x : Str => mg x = none) nobT := (.cons (PySem.W.mg_none_of X G z0) (.cons (PySem.W.mg_none_of X G z1) (.cons (PySem.W.mg_none_of X G z2) (.cons (PySem.W.mg_none_of X G z3) (.cons (PySem.W.mg_none_of X G z4) (.cons (PySem.W.mg_none_of X G z5) (.cons (PySem.W.mg_none_of X G z6) (.cons (PySem.W.mg_none_of X G z7) (.cons (PySem.W.mg_none_of X G z8) .nil)))))))))
  have hfns : AllL (fun p : Str × Nat × Nat => ∃ fe, Tx[p.2.1]? = some fe ∧ fe.name = p.1 ∧ fe.ps.length = p.2.2) fnT := (.cons ⟨_, rfl, rfl, rfl⟩ (.cons ⟨_, rfl, rfl, rfl⟩ (.cons ⟨_, rfl, rfl, rfl⟩ (.cons ⟨_, rfl, rfl, rfl⟩ (.cons ⟨_, rfl, rfl, rfl⟩ (.cons ⟨_, rfl, rfl, rfl⟩ (.cons ⟨_, rfl, rfl, rfl⟩ (.cons ⟨_, rfl, rfl, rfl⟩ (.cons ⟨_, rfl, rfl, rfl⟩ (.cons ⟨_, rfl, rfl, rfl⟩ (.cons ⟨_, rfl, rfl, rfl⟩ (.cons ⟨_, rfl, rfl, rfl⟩ (.cons ⟨_, rfl, rfl, rfl⟩ (.cons ⟨_, rfl, rfl, rfl⟩ .nil))))))))))))))
  have hT : AllL (fun fe : FE => ∃ f fd, mg fe.name = some (.ref f) ∧ Fun K fe.name fe.name fe.sd f fd ∧ Binds K fd fe.ps [] ∧ FnScope fe.N fe.ps (defScope fe.sd)) Tx := (.cons ⟨_, _, PySem.W.mg_of X G a0, F0, b0, sc_is_whole⟩ (.cons ⟨_, _, PySem.W.mg_of X G a1, F1, b1, sc_is_among⟩ (.cons ⟨_, _, PySem.W.mg_of X G a2, F2, b2, sc_is_word⟩ (.cons ⟨_, _, PySem.W.mg_of X G a3, F3, b3, sc_is_reserved⟩ (.cons ⟨_, _, PySem.W.mg_of X G a4, F4, b4, sc_is_name⟩ (.cons ⟨_, _, PySem.W.mg_of X G a5, F5, b5, sc_digit_of⟩ (.cons ⟨_, _, PySem.W.mg_of X G a6, F6, b6, sc_words_of⟩ (.cons ⟨_, _, PySem.W.mg_of X G a7, F7, b7, sc__law_mixed⟩ (.cons ⟨_, _, PySem.W.mg_of X G a8, F8, b8, sc__law_reserved⟩ (.cons ⟨_, _, PySem.W.mg_of X G a9, F9, b9, sc__law_written⟩ (.cons ⟨_, _, PySem.W.mg_of X G a10, F10, b10, sc__law_small⟩ (.cons ⟨_, _, PySem.W.mg_of X G a11, F11, b11, sc__law_one⟩ (.cons ⟨_, _, PySem.W.mg_of X G a12, F12, b12, sc__law_row⟩ (.cons ⟨_, _, PySem.W.mg_of X G a13, F13, bL, sc_law⟩ .nil))))))))))))))
  have t : TOk ⟨l.prog, w, K, mg, base, fun _ => 0, fun _ => 0⟩ Gx Tx := ⟨fun x d q => hcon.mem (lookup_mem q), fun x q => hnob.mem q, fun x i m q => hfns.mem (lookup_mem q), fun i fe q => hT.mem (List.mem_of_getElem? q)⟩
  exact (fn_at (fe := ⟨"law", s_law, N_law, p_law, true⟩) (n := 5) (i := 13) t rfl F13 sc_law).imp fun vs H Q E q => law_sp (C := ⟨l.prog, w, K, mg, base, fun _ => 0, fun _ => 0⟩) law_true q
end K01
open PySem PySem.W PyProof.Rows
set_option maxRecDepth 100000 in
set_option maxHeartbeats 0 in
theorem PySem.Challenge.cw_worldtale_k01_words_holds : PySem.Challenge.rw_worldtale_k01_words.Holds := by
  w_on; o_law; k_head; (case hw => w_witness2)
  k_fill
  refine Mi.walk (l := PySem.Challenge.rw_worldtale_k01_words) (n := 6) (x := "_law_script") rfl rfl ⟨rfl, by decide, by decide⟩ (fun w h Y => PySem.W.kIn_of Y) ?F
  case F =>
    intro w mg fa h KX G hmg
    refine' K01.all_mk KX G hmg ?mi_a0 ?mi_l0 ?mi_c0 ?mi_k0 ?mi_a1 ?mi_l1 ?mi_c1 ?mi_k1 ?mi_a2 ?mi_l2 ?mi_c2 ?mi_k2 ?mi_a3 ?mi_l3 ?mi_c3 ?mi_k3 ?mi_a4 ?mi_l4 ?mi_c4 ?mi_k4 ?mi_a5 ?mi_l5 ?mi_c5 ?mi_k5 ?mi_a6 ?mi_l6 ?mi_c6 ?mi_k6 ?mi_a7 ?mi_l7 ?mi_c7 ?mi_k7 ?mi_a8 ?mi_l8 ?mi_c8 ?mi_k8 ?mi_a9 ?mi_l9 ?mi_c9 ?mi_k9 ?mi_a10 ?mi_l10 ?mi_c10 ?mi_k10 ?mi_a11 ?mi_l11 ?mi_c11 ?mi_k11 ?mi_a12 ?mi_l12 ?mi_c12 ?mi_k12 ?mi_a13 ?mi_l13 ?mi_c13 ?mi_k13 ?mi_g0 ?mi_g1 ?mi_g2 ?mi_g3 ?mi_h3 ?mi_g4 ?mi_h4 ?mi_g5 ?mi_h5 ?mi_g6 ?mi_h6 ?mi_z0 ?mi_z1 ?mi_z2 ?mi_z3 ?mi_z4 ?mi_z5 ?mi_z6 ?mi_z7 ?mi_z8
    (case mi_a0 => k_is)
    (case mi_l0 => k_is)
    (case mi_c0 => k_is)
    (case mi_k0 => k_is)
    (case mi_a1 => k_is)
    (case mi_l1 => k_is)
    (case mi_c1 => k_is)
    (case mi_k1 => k_is)
    (case mi_a2 => k_is)
    (case mi_l2 => k_is)
    (case mi_c2 => k_is)
    (case mi_k2 => k_is)
    (case mi_a3 => k_is)
    (case mi_l3 => k_is)
    (case mi_c3 => k_is)
    (case mi_k3 => k_is)
    (case mi_a4 => k_is)
    (case mi_l4 => k_is)
    (case mi_c4 => k_is)
    (case mi_k4 => k_is)
    (case mi_a5 => k_is)
    (case mi_l5 => k_is)
    (case mi_c5 => k_is)
    (case mi_k5 => k_is)
    (case mi_a6 => k_is)
    (case mi_l6 => k_is)
    (case mi_c6 => k_is)
    (case mi_k6 => k_is)
    (case mi_a7 => k_is)
    (case mi_l7 => k_is)
    (case mi_c7 => k_is)
    (case mi_k7 => k_is)
    (case mi_a8 => k_is)
    (case mi_l8 => k_is)
    (case mi_c8 => k_is)
    (case mi_k8 => k_is)
    (case mi_a9 => k_is)
    (case mi_l9 => k_is)
    (case mi_c9 => k_is)
    (case mi_k9 => k_is)
    (case mi_a10 => k_is)
    (case mi_l10 => k_is)
    (case mi_c10 => k_is)
    (case mi_k10 => k_is)
    (case mi_a11 => k_is)
    (case mi_l11 => k_is)
    (case mi_c11 => k_is)
    (case mi_k11 => k_is)
    (case mi_a12 => k_is)
    (case mi_l12 => k_is)
    (case mi_c12 => k_is)
    (case mi_k12 => k_is)
    (case mi_a13 => k_is)
    (case mi_l13 => k_is)
    (case mi_c13 => k_is)
    (case mi_k13 => k_is)
    (case mi_g0 => k_is)
    (case mi_g1 => k_is)
    (case mi_g2 => k_is)
    (case mi_g3 => k_is)
    (case mi_h3 => k_is)
    (case mi_g4 => k_is)
    (case mi_h4 => k_is)
    (case mi_g5 => k_is)
    (case mi_h5 => k_is)
    (case mi_g6 => k_is)
    (case mi_h6 => k_is)
    (case mi_z0 => k_is)
    (case mi_z1 => k_is)
    (case mi_z2 => k_is)
    (case mi_z3 => k_is)
    (case mi_z4 => k_is)
    (case mi_z5 => k_is)
    (case mi_z6 => k_is)
    (case mi_z7 => k_is)
    (case mi_z8 => k_is)
