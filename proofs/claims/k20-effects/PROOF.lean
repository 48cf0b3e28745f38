import PyProof.Rows.All
import HandS.ForMost
import HandS.ForExc
import HandS.Flow
import HandS.Style
import HandS.TupAny
import HandS.TupLe
import HandS.Deep
import HandS.Wide
import HandS.More
import KE.KEqDict
import HandS.TupMul
import HandS.IsInst
import HandS.StrMore
import HandS.ReplaceLit
import HandS.ReplaceList
import HandS.Zip
import HandS.NoneIn
import HandS.CallSlots
import KE.KRevSl
import HandS.Strs
import HandS.TryOnly
import HandS.ExcOwn
import HandS.ExcIs
import HandS.Codes
import Wide.All
import OpenK.AllK
import Wide.FinOn
import PySem.Challenge.RW_worldtale_k20_conditions_and_effects
set_option Elab.async false
set_option linter.all false
set_option autoImplicit false
set_option maxRecDepth 100000
set_option maxHeartbeats 4000000
/-! Mi1: data, stores, what stands for what; outcomes and their transformers. -/
namespace Mi
open PySem L2

/-- data: trees; `ref i` is the i-th object of the store -/
inductive D where
  | non | bl (b : Bool) | int (i : Int) | str (s : Str) | tup (xs : List D) | lst (xs : List D) | dct (kvs : List (Key × D)) | frz (xs : List D) | ref (i : Nat)
/-- what stands in the store -/
inductive Ob where
  | lst (xs : List D) | dct (kvs : List (Key × D)) | ins (c : Nat) (fs : List (Str × D)) | lck (kvs : List (Key × D))
/-- not locked -/
def Ob.unl : Ob → Bool
  | .lck _ => false
  | _ => true
abbrev Store := List Ob
/-- where the store's objects stand; L: addresses that no frozen thing has (live ones, and such as are being made) -/
structure Mu where
  f : Nat → Addr
  L : Addr → Prop
instance : CoeFun Mu (fun _ => Nat → Addr) := ⟨Mu.f⟩

/-- a list that is read alone: frozen, or of the module -/
def FrzAt (K : PySem.W.Frag) (μ : Mu) (H : Hp) (a : Addr) (xs : List V) : Prop := ((∃ o, H a = some (.frz o (.lst xs))) ∧ ¬ μ.L a) ∨
    ∃ (o : Obj) (its : Array Value) (n : Nat), K.lookup a = some o ∧ o.cls = .type "list" ∧ o.dict = none ∧ o.data = .seq its n ∧ its.size ≤ sizeLine ∧ Vals xs its.toList
theorem FrzAt.sq {K : PySem.W.Frag} {μ : Mu} {H : Hp} {a : Addr} {xs : List V} (h : FrzAt K μ H a xs) : SqL K H a xs := by
  rcases h with ⟨⟨o, h⟩, _⟩ | h
  · exact .inl (.inr ⟨o, h⟩)
  · exact .inr h
theorem FrzAt.less {K : PySem.W.Frag} {μ μ' : Mu} {H : Hp} {a : Addr} {xs : List V} (hL : ∀ a, μ'.L a → μ.L a) (h : FrzAt K μ H a xs) : FrzAt K μ' H a xs := by
  rcases h with ⟨⟨o, h⟩, nl⟩ | h
  · exact .inl ⟨⟨o, h⟩, fun z => nl (hL _ z)⟩
  · exact .inr h
/-- a key as Python has it -/
def KeyOk : Key → Prop
  | .inl _ => True
  | .inr x => x.length ≤ sizeLine ∧ PyData.strOk x = true
mutual
inductive Dat (K : PySem.W.Frag) (n : Nat) (μ : Mu) (H : Hp) : V → D → Prop
  | non : Dat K n μ H .non .non
  | bl (b : Bool) : Dat K n μ H (.bl b) (.bl b)
  | int (i : Int) : Dat K n μ H (.int i) (.int i)
  | str {x : Str} (hl : x.length ≤ sizeLine) (ok : PyData.strOk x = true) : Dat K n μ H (.str x) (.str x)
  | tup {a : Addr} {xs : List V} {ds : List D} (h : SqT K H a xs) (hl : ds.length ≤ sizeLine) (hs : DatL K n μ H xs ds) : Dat K n μ H (.ref a) (.tup ds)
  | lst {a : Addr} {xs : List V} {ds : List D} (h : H a = some (.lst xs)) (nl : ¬ μ.L a) (hl : ds.length ≤ sizeLine) (hs : DatL K n μ H xs ds) : Dat K n μ H (.ref a) (.lst ds)
  | dct {a : Addr} {xs : List (Key × V)} {ds : List (Key × D)} (h : H a = some (.dK xs)) (nl : ¬ μ.L a) (hl : ds.length ≤ sizeLine) (hs : DatK K n μ H xs ds) : Dat K n μ H (.ref a) (.dct ds)
  | frz {a : Addr} {xs : List V} {ds : List D} (h : FrzAt K μ H a xs) (hl : ds.length ≤ sizeLine) (hs : DatL K n μ H xs ds) : Dat K n μ H (.ref a) (.frz ds)
  | ref {i : Nat} (h : i < n) : Dat K n μ H (.ref (μ i)) (.ref i)
inductive DatL (K : PySem.W.Frag) (n : Nat) (μ : Mu) (H : Hp) : List V → List D → Prop
  | nil : DatL K n μ H [] []
  | cons {v : V} {vs : List V} {d : D} {ds : List D} (h : Dat K n μ H v d) (t : DatL K n μ H vs ds) : DatL K n μ H (v :: vs) (d :: ds)
inductive DatK (K : PySem.W.Frag) (n : Nat) (μ : Mu) (H : Hp) : List (Key × V) → List (Key × D) → Prop
  | nil : DatK K n μ H [] []
  | cons {k : Key} {v : V} {vs : List (Key × V)} {d : D} {ds : List (Key × D)} (q : KeyOk k) (h : Dat K n μ H v d) (t : DatK K n μ H vs ds) : DatK K n μ H ((k, v) :: vs) ((k, d) :: ds)
end
/-- the fields of an instance -/
inductive DatF (K : PySem.W.Frag) (n : Nat) (μ : Mu) (H : Hp) : List (Str × V) → List (Str × D) → Prop
  | nil : DatF K n μ H [] []
  | cons {k : Str} {v : V} {vs : List (Str × V)} {d : D} {ds : List (Str × D)} (h : Dat K n μ H v d) (t : DatF K n μ H vs ds) : DatF K n μ H ((k, v) :: vs) ((k, d) :: ds)

/-- how heap and store go on: what is not live stays -/
structure Wx (n : Nat) (μ : Mu) (H : Hp) (n' : Nat) (μ' : Mu) (H' : Hp) : Prop where
  le : n ≤ n'
  mu : ∀ i, i < n → μ' i = μ i
  keep : ∀ a o, H a = some o → ¬ μ.L a → H' a = some o
  new : ∀ i, n ≤ i → i < n' → H (μ' i) = none
  lv : ∀ a, μ.L a → μ'.L a
  fr : ∀ a, μ'.L a → μ.L a ∨ H a = none
  tups : ∀ a xs, Rd H a (.tup xs) → Rd H' a (.tup xs)
  dom : ∀ a, H' a = none → H a = none
/-- .. and what is held stays, too -/
structure Ext (n : Nat) (μ : Mu) (H : Hp) (n' : Nat) (μ' : Mu) (H' : Hp) : Prop extends Wx n μ H n' μ' H' where
  all : ∀ a o, H a = some o → (∀ i, i < n → μ i ≠ a) → H' a = some o

section
variable {K : PySem.W.Frag} {n n1 n2 : Nat} {μ μ1 μ2 : Mu} {H H1 H2 : Hp}
theorem Ext.refl : Ext n μ H n μ H := ⟨⟨Nat.le_refl _, fun _ _ => rfl, fun _ _ h _ => h, fun i h1 h2 => absurd h1 (by omega), fun _ h => h, fun _ h => .inl h, fun _ _ h => h, fun _ h => h⟩, fun _ _ h _ => h⟩
theorem Wx.nl (e : Wx n μ H n1 μ1 H1) {a : Addr} {u : HO} (nl : ¬ μ.L a) (h : H a = some u) : ¬ μ1.L a := fun z => by
  rcases e.fr a z with q | q
  · exact nl q
  · rw [h] at q; cases q
theorem Wx.trans (a : Wx n μ H n1 μ1 H1) (b : Wx n1 μ1 H1 n2 μ2 H2) : Wx n μ H n2 μ2 H2 where
  le := Nat.le_trans a.le b.le
  mu := fun i h => (b.mu i (Nat.lt_of_lt_of_le h a.le)).trans (a.mu i h)
  keep := fun x o h nl => b.keep x o (a.keep x o h nl) (a.nl nl h)
  new := fun i h1 h2 => by
    by_cases h3 : i < n1
    · rw [b.mu i h3]; exact a.new i h1 h3
    · exact a.dom _ (b.new i (by omega) h2)
  lv := fun x h => b.lv x (a.lv x h)
  fr := fun x h => by
    rcases b.fr x h with q | q
    · exact a.fr x q
    · exact .inr (a.dom x q)
  tups := fun x xs h => b.tups x xs (a.tups x xs h)
  dom := fun x h => a.dom x (b.dom x h)
theorem Ext.trans (a : Ext n μ H n1 μ1 H1) (b : Ext n1 μ1 H1 n2 μ2 H2) : Ext n μ H n2 μ2 H2 := ⟨a.toWx.trans b.toWx, fun x o h nl => b.all x o (a.all x o h nl) fun i hi z => by
  by_cases h1 : i < n
  · exact nl i h1 (by rw [← a.mu i h1]; exact z)
  · have q := a.new i (by omega) hi
    rw [z, h] at q; cases q⟩
theorem Wx.sqT (e : Wx n μ H n1 μ1 H1) {a : Addr} {xs : List V} (h : SqT K H a xs) : SqT K H1 a xs := by
  rcases h with h | h
  · exact .inl (e.tups a xs h)
  · exact .inr h
mutual
theorem Dat.wx (e : Wx n μ H n1 μ1 H1) : ∀ {v : V} {d : D}, Dat K n μ H v d → Dat K n1 μ1 H1 v d
  | _, _, .non => .non
  | _, _, .bl b => .bl b
  | _, _, .int i => .int i
  | _, _, .str h ok => .str h ok
  | _, _, .tup h hl hs => .tup (e.sqT h) hl (DatL.wx e hs)
  | _, _, .lst h nl hl hs => .lst (e.keep _ _ h nl) (e.nl nl h) hl (DatL.wx e hs)
  | _, _, .dct h nl hl hs => .dct (e.keep _ _ h nl) (e.nl nl h) hl (DatK.wx e hs)
  | _, _, .frz h hl hs => .frz (by
      rcases h with ⟨⟨o, h⟩, nl⟩ | h
      · exact .inl ⟨⟨o, e.keep _ _ h nl⟩, e.nl nl h⟩
      · exact .inr h) hl (DatL.wx e hs)
  | _, _, .ref (i := i) h => by
    have q : μ1 i = μ i := e.mu i h
    rw [← q]
    exact .ref (Nat.lt_of_lt_of_le h e.le)
theorem DatL.wx (e : Wx n μ H n1 μ1 H1) : ∀ {vs : List V} {ds : List D}, DatL K n μ H vs ds → DatL K n1 μ1 H1 vs ds
  | _, _, .nil => .nil
  | _, _, .cons h t => .cons (Dat.wx e h) (DatL.wx e t)
theorem DatK.wx (e : Wx n μ H n1 μ1 H1) : ∀ {vs : List (Key × V)} {ds : List (Key × D)}, DatK K n μ H vs ds → DatK K n1 μ1 H1 vs ds
  | _, _, .nil => .nil
  | _, _, .cons q h t => .cons q (Dat.wx e h) (DatK.wx e t)
end
theorem DatF.wx (e : Wx n μ H n1 μ1 H1) : ∀ {vs : List (Str × V)} {ds : List (Str × D)}, DatF K n μ H vs ds → DatF K n1 μ1 H1 vs ds
  | _, _, .nil => .nil
  | _, _, .cons h t => .cons (Dat.wx e h) (DatF.wx e t)
theorem Dat.ext (e : Ext n μ H n1 μ1 H1) {v : V} {d : D} (h : Dat K n μ H v d) : Dat K n1 μ1 H1 v d := h.wx e.toWx
theorem DatL.ext (e : Ext n μ H n1 μ1 H1) {v : List V} {d : List D} (h : DatL K n μ H v d) : DatL K n1 μ1 H1 v d := h.wx e.toWx
theorem DatK.ext (e : Ext n μ H n1 μ1 H1) {v : List (Key × V)} {d : List (Key × D)} (h : DatK K n μ H v d) : DatK K n1 μ1 H1 v d := h.wx e.toWx
theorem DatF.ext (e : Ext n μ H n1 μ1 H1) {v : List (Str × V)} {d : List (Str × D)} (h : DatF K n μ H v d) : DatF K n1 μ1 H1 v d := h.wx e.toWx
theorem DatL.length : ∀ {vs : List V} {ds : List D}, DatL K n μ H vs ds → vs.length = ds.length
  | _, _, .nil => rfl
  | _, _, .cons _ t => congrArg (· + 1) t.length
theorem DatL.get : ∀ {vs : List V} {ds : List D} {i : Nat} {d : D}, DatL K n μ H vs ds → ds[i]? = some d → ∃ v, vs[i]? = some v ∧ Dat K n μ H v d
  | _, _, _, _, .nil, h => by simp at h
  | _, _, 0, _, .cons q _, h => by simp at h; subst h; exact ⟨_, rfl, q⟩
  | _, _, i + 1, d, .cons _ t, h => by
    obtain ⟨v, h1, h2⟩ := DatL.get (i := i) (d := d) t (by simpa using h)
    exact ⟨v, by simpa using h1, h2⟩
theorem DatL.get' : ∀ {vs : List V} {ds : List D} {i : Nat} {v : V}, DatL K n μ H vs ds → vs[i]? = some v → ∃ d, ds[i]? = some d ∧ Dat K n μ H v d
  | _, _, _, _, .nil, h => by simp at h
  | _, _, 0, _, .cons q _, h => by simp at h; subst h; exact ⟨_, rfl, q⟩
  | _, _, i + 1, v, .cons _ t, h => by
    obtain ⟨d, h1, h2⟩ := DatL.get' (i := i) (v := v) t (by simpa using h)
    exact ⟨d, by simpa using h1, h2⟩
theorem DatL.append : ∀ {xs ys : List V} {us ws : List D}, DatL K n μ H xs us → DatL K n μ H ys ws → DatL K n μ H (xs ++ ys) (us ++ ws)
  | _, _, _, _, .nil, s => s
  | _, _, _, _, .cons r t, s => .cons r (DatL.append t s)
theorem DatL.take : ∀ {xs : List V} {us : List D} (k : Nat), DatL K n μ H xs us → DatL K n μ H (xs.take k) (us.take k)
  | _, _, 0, _ => .nil
  | _, _, _ + 1, .nil => .nil
  | _, _, k + 1, .cons r t => .cons r (DatL.take k t)
theorem DatL.drop : ∀ {xs : List V} {us : List D} (k : Nat), DatL K n μ H xs us → DatL K n μ H (xs.drop k) (us.drop k)
  | _, _, 0, r => r
  | _, _, _ + 1, .nil => .nil
  | _, _, k + 1, .cons _ t => DatL.drop k t
theorem DatL.set {x : V} {u : D} (r : Dat K n μ H x u) : ∀ {xs : List V} {us : List D} (i : Nat), DatL K n μ H xs us → DatL K n μ H (xs.set i x) (us.set i u)
  | _, _, _, .nil => .nil
  | _, _, 0, .cons _ t => .cons r t
  | _, _, i + 1, .cons q t => .cons q (DatL.set r i t)
theorem DatL.reverse {xs : List V} {us : List D} (h : DatL K n μ H xs us) : DatL K n μ H xs.reverse us.reverse := by
  induction us generalizing xs with
  | nil => cases h; exact .nil
  | cons d ds ih =>
    cases h with
    | cons q t =>
      rw [List.reverse_cons, List.reverse_cons]
      exact (ih t).append (.cons q .nil)
theorem DatK.length : ∀ {vs : List (Key × V)} {ds : List (Key × D)}, DatK K n μ H vs ds → vs.length = ds.length
  | _, _, .nil => rfl
  | _, _, .cons _ _ t => congrArg (· + 1) t.length
theorem DatF.length : ∀ {vs : List (Str × V)} {ds : List (Str × D)}, DatF K n μ H vs ds → vs.length = ds.length
  | _, _, .nil => rfl
  | _, _, .cons _ t => congrArg (· + 1) t.length
end

/-! ### stores -/
section
variable (K : PySem.W.Frag) (cls : Nat → Addr)
def ObR (n : Nat) (μ : Mu) (H : Hp) (a : Addr) : Ob → Prop
  | .lst ds => ∃ vs, H a = some (.lst vs) ∧ DatL K n μ H vs ds ∧ ds.length ≤ sizeLine
  | .dct ds => ∃ vs, H a = some (.dK vs) ∧ DatK K n μ H vs ds ∧ ds.length ≤ sizeLine
  | .ins c fs => ∃ dx vs, H a = some (.ins (cls c) dx vs) ∧ DatF K n μ H vs fs ∧ fs.length ≤ 900
  | .lck ds => ∃ vs o, H a = some (.frz o (.dK vs)) ∧ DatK K n μ H vs ds ∧ ds.length ≤ sizeLine
structure Rel (μ : Mu) (st : Store) (H : Hp) : Prop where
  inj : ∀ i j, i < st.length → j < st.length → μ i = μ j → i = j
  obj : ∀ (i : Nat) (o : Ob), st[i]? = some o → ObR K cls st.length μ H (μ i) o
  liv : ∀ (i : Nat) (o : Ob), st[i]? = some o → o.unl = true → μ.L (μ i)
  trk : ∀ a, μ.L a → ∃ u, H a = some u ∧ (∀ xs, u ≠ .tup xs) ∧ ∀ b x, u ≠ .frz b x
end
/-- slots -/
structure EnvR (K : PySem.W.Frag) (n : Nat) (μ : Mu) (H : Hp) (σ : L2.St) (ρ : List (Option D)) : Prop where
  len : σ.length = ρ.length
  at_ : ∀ (i : Nat) (d : D), ρ[i]? = some (some d) → ∃ v, σ[i]? = some (some v) ∧ Dat K n μ H v d
section
variable {K : PySem.W.Frag} {cls : Nat → Addr} {n n1 : Nat} {μ μ1 : Mu} {H H1 : Hp} {σ : L2.St} {ρ : List (Option D)} {st : Store}
theorem EnvR.ext (e : Ext n μ H n1 μ1 H1) (h : EnvR K n μ H σ ρ) : EnvR K n1 μ1 H1 σ ρ := ⟨h.len, fun i d q => by
  obtain ⟨v, h1, h2⟩ := h.at_ i d q
  exact ⟨v, h1, h2.ext e⟩⟩
theorem EnvR.wx (e : Wx n μ H n1 μ1 H1) (h : EnvR K n μ H σ ρ) : EnvR K n1 μ1 H1 σ ρ := ⟨h.len, fun i d q => by
  obtain ⟨v, h1, h2⟩ := h.at_ i d q
  exact ⟨v, h1, h2.wx e⟩⟩
theorem EnvR.set {v : V} {d : D} (h : EnvR K n μ H σ ρ) (hd : Dat K n μ H v d) (i : Nat) : EnvR K n μ H (σ.set i (some v)) (ρ.set i (some d)) := ⟨by rw [List.length_set, List.length_set]; exact h.len, fun j e q => by
  by_cases hj : i = j
  · subst hj
    by_cases hl : i < ρ.length
    · rw [List.getElem?_set_self hl] at q
      cases q
      exact ⟨v, List.getElem?_set_self (by rw [h.len]; exact hl), hd⟩
    · rw [List.getElem?_eq_none (by rw [List.length_set]; omega)] at q; cases q
  · rw [List.getElem?_set_ne hj] at q
    obtain ⟨v', h1, h2⟩ := h.at_ j e q
    exact ⟨v', by rw [List.getElem?_set_ne hj]; exact h1, h2⟩⟩
theorem EnvR.unset (h : EnvR K n μ H σ ρ) (i : Nat) : EnvR K n μ H (σ.set i none) (ρ.set i none) := ⟨by rw [List.length_set, List.length_set]; exact h.len, fun j e q => by
  by_cases hj : i = j
  · subst hj
    by_cases hl : i < ρ.length
    · rw [List.getElem?_set_self hl] at q
      cases q
    · rw [List.getElem?_eq_none (by rw [List.length_set]; omega)] at q; cases q
  · rw [List.getElem?_set_ne hj] at q
    obtain ⟨v', h1, h2⟩ := h.at_ j e q
    exact ⟨v', by rw [List.getElem?_set_ne hj]; exact h1, h2⟩⟩
theorem Rel.hasO (R : Rel K cls μ st H) {i : Nat} (h : i < st.length) : ∃ u, H (μ i) = some u := by
  have q := R.obj i _ (List.getElem?_eq_getElem h)
  cases e : st[i] with
  | lst ds => rw [e] at q; obtain ⟨vs, h, _⟩ := q; exact ⟨_, h⟩
  | dct ds => rw [e] at q; obtain ⟨vs, h, _⟩ := q; exact ⟨_, h⟩
  | ins c fs => rw [e] at q; obtain ⟨dx, vs, h, _⟩ := q; exact ⟨_, h⟩
  | lck ds => rw [e] at q; obtain ⟨vs, o, h, _⟩ := q; exact ⟨_, h⟩
theorem Rel.ne_new (R : Rel K cls μ st H) {i : Nat} (h : i < st.length) {p : Addr} (hp : H p = none) : μ i ≠ p := fun z => by
  obtain ⟨u, e⟩ := R.hasO h
  rw [z, hp] at e; cases e
/-- a new object that is not live -/
theorem Rel.fresh (R : Rel K cls μ st H) {p : Addr} {o : HO} (hp : H p = none) : Ext st.length μ H st.length μ (upd H p o) ∧ ¬ μ.L p := by
  have nl : ¬ μ.L p := fun z => by
    obtain ⟨u, h, _⟩ := R.trk p z
    rw [hp] at h; cases h
  refine ⟨⟨⟨Nat.le_refl _, fun _ _ => rfl, fun a u h _ => by rw [upd_ne (ne_of_none h hp)]; exact h, fun i h1 h2 => absurd h1 (by omega), fun _ h => h, fun _ h => .inl h, fun a xs h => ?_, fun a h => ?_⟩, fun a u h _ => by rw [upd_ne (ne_of_none h hp)]; exact h⟩, nl⟩
  · rcases h with h | ⟨b, h⟩
    · exact .inl (by rw [upd_ne (ne_of_none h hp)]; exact h)
    · exact .inr ⟨b, by rw [upd_ne (ne_of_none h hp)]; exact h⟩
  · by_cases e : a = p
    · subst e; exact hp
    · rw [upd_ne e] at h; exact h
theorem ObR.wx (e : Wx n μ H n1 μ1 H1) {a : Addr} {o : Ob} (h : ObR K cls n μ H a o) (hk : ∀ u, H a = some u → H1 a = some u) : ObR K cls n1 μ1 H1 a o := by
  cases o with
  | lst ds => obtain ⟨vs, h, q, z⟩ := h; exact ⟨vs, hk _ h, q.wx e, z⟩
  | dct ds => obtain ⟨vs, h, q, z⟩ := h; exact ⟨vs, hk _ h, q.wx e, z⟩
  | ins c fs => obtain ⟨dx, vs, h, q, z⟩ := h; exact ⟨dx, vs, hk _ h, q.wx e, z⟩
  | lck ds => obtain ⟨vs, o, h, q, z⟩ := h; exact ⟨vs, o, hk _ h, q.wx e, z⟩
theorem ObR.ext (e : Ext n μ H n1 μ1 H1) {a : Addr} {o : Ob} (h : ObR K cls n μ H a o) (hk : ∀ u, H a = some u → H1 a = some u) : ObR K cls n1 μ1 H1 a o := h.wx e.toWx hk
theorem Rel.upd (R : Rel K cls μ st H) {p : Addr} {o : HO} (hp : H p = none) : Rel K cls μ st (upd H p o) := by
  obtain ⟨e, nl⟩ := R.fresh (o := o) hp
  refine ⟨R.inj, fun i ob q => ?_, R.liv, fun a z => ?_⟩
  · exact (R.obj i ob q).ext e fun u hu => by rw [upd_ne (R.ne_new (List.getElem?_eq_some_iff.mp q).1 hp)]; exact hu
  · obtain ⟨u, h, h1⟩ := R.trk a z
    exact ⟨u, by rw [upd_ne (ne_of_none h hp)]; exact h, h1⟩
/-- a new object that becomes live -/
def mset (μ : Mu) (n : Nat) (p : Addr) : Mu := ⟨fun i => if i = n then p else μ i, fun a => μ.L a ∨ a = p⟩
theorem mset_at (μ : Mu) (n : Nat) (p : Addr) : mset μ n p n = p := if_pos rfl
theorem mset_ne {μ : Mu} {n i : Nat} {p : Addr} (h : i ≠ n) : mset μ n p i = μ i := if_neg h
/-- .. that may not be a frozen thing -/
def mhold (μ : Mu) (p : Addr) : Mu := ⟨μ.f, fun a => μ.L a ∨ a = p⟩
theorem Rel.ext_new (R : Rel K cls μ st H) {p : Addr} {o : HO} (hp : H p = none) : Ext st.length μ H (st.length + 1) (mset μ st.length p) (L2.upd H p o) := by
  obtain ⟨e, nl⟩ := R.fresh (o := o) hp
  exact ⟨⟨Nat.le_succ _, fun i hi => mset_ne (Nat.ne_of_lt hi), e.keep, fun i h1 h2 => by
    have : i = st.length := by omega
    subst this
    rw [mset_at]; exact hp, fun a h => .inl h, fun a h => h.elim .inl fun z => .inr (by rw [z]; exact hp), e.tups, e.dom⟩, e.all⟩
theorem Rel.alloc (R : Rel K cls μ st H) {p : Addr} {o : HO} {ob : Ob} (hp : H p = none) (h1 : ∀ xs, o ≠ .tup xs) (h2 : ∀ b x, o ≠ .frz b x) (ho : ObR K cls (st.length + 1) (mset μ st.length p) (L2.upd H p o) p ob) : Rel K cls (mset μ st.length p) (st ++ [ob]) (L2.upd H p o) := by
  have nl := (R.fresh (o := o) hp).2
  have nm : ∀ i, i < st.length → μ i ≠ p := fun i hi => R.ne_new hi hp
  have E := R.ext_new (o := o) hp
  have el : (st ++ [ob]).length = st.length + 1 := by simp
  refine ⟨fun i j hi hj e => ?_, fun i o' q => ?_, fun i o' q hu => ?_, fun a z => ?_⟩
  · rw [el] at hi hj
    by_cases h1 : i = st.length
    · by_cases h2 : j = st.length
      · omega
      · rw [h1, mset_at, mset_ne h2] at e
        exact absurd e.symm (nm j (by omega))
    · by_cases h2 : j = st.length
      · rw [h2, mset_at, mset_ne h1] at e
        exact absurd e (nm i (by omega))
      · rw [mset_ne h1, mset_ne h2] at e
        exact R.inj i j (by omega) (by omega) e
  · rw [el]
    by_cases h1 : i < st.length
    · rw [List.getElem?_append_left h1] at q
      rw [mset_ne (Nat.ne_of_lt h1)]
      exact (R.obj i o' q).ext E fun u hu => by rw [upd_ne (nm i h1)]; exact hu
    · have h2 : i = st.length := by
        have := (List.getElem?_eq_some_iff.mp q).1
        rw [el] at this
        omega
      subst h2
      rw [List.getElem?_append_right (Nat.le_refl _), Nat.sub_self] at q
      have : ob = o' := Option.some.inj q
      subst this
      rw [mset_at]
      exact ho
  · have hi := (List.getElem?_eq_some_iff.mp q).1
    rw [el] at hi
    by_cases h1 : i = st.length
    · rw [h1, mset_at]; exact .inr rfl
    · rw [List.getElem?_append_left (by omega)] at q
      rw [mset_ne h1]; exact .inl (R.liv i o' q hu)
  · rcases z with z | z
    · obtain ⟨u, h, h'⟩ := R.trk a z
      exact ⟨u, by rw [upd_ne (ne_of_none h hp)]; exact h, h'⟩
    · rw [z]
      exact ⟨o, upd_same, h1, h2⟩
/-- a held object changes -/
theorem Rel.wx_set (R : Rel K cls μ st H) {p : Addr} {o : HO} (hp : μ.L p) : Wx st.length μ H st.length μ (L2.upd H p o) := by
  obtain ⟨u, hu, h1, h2⟩ := R.trk p hp
  refine ⟨Nat.le_refl _, fun _ _ => rfl, fun a u' h nl => by rw [upd_ne (fun z => nl (by rw [z]; exact hp))]; exact h, fun j h1 h2 => absurd h1 (by omega), fun _ h => h, fun _ h => .inl h, fun a xs h => ?_, fun a h => ?_⟩
  · rcases h with h | ⟨b, h⟩
    · exact .inl (by rw [upd_ne (fun z => by rw [z, hu] at h; exact h1 _ (Option.some.inj h))]; exact h)
    · exact .inr ⟨b, by rw [upd_ne (fun z => by rw [z, hu] at h; exact h2 _ _ (Option.some.inj h))]; exact h⟩
  · by_cases e : a = p
    · rw [e, upd_same] at h; cases h
    · rw [upd_ne e] at h; exact h
/-- a live object changes -/
theorem Rel.ext_set (R : Rel K cls μ st H) {i : Nat} {o : HO} {o0 : Ob} (hi : st[i]? = some o0) (hu : o0.unl = true) : Ext st.length μ H st.length μ (L2.upd H (μ i) o) :=
  ⟨R.wx_set (R.liv i o0 hi hu), fun a u h nl => by rw [upd_ne (fun z => nl i (List.getElem?_eq_some_iff.mp hi).1 z.symm)]; exact h⟩
theorem Rel.set (R : Rel K cls μ st H) {i : Nat} {o : HO} {ob o0 : Ob} (hi0 : st[i]? = some o0) (hu : o0.unl = true) (h1 : ∀ xs, o ≠ .tup xs) (h2 : ∀ b x, o ≠ .frz b x) (ho : ObR K cls st.length μ (L2.upd H (μ i) o) (μ i) ob) : Rel K cls μ (st.set i ob) (L2.upd H (μ i) o) := by
  have E := R.ext_set (o := o) hi0 hu
  have hi := (List.getElem?_eq_some_iff.mp hi0).1
  refine ⟨fun j k hj hk e => R.inj j k (by rw [List.length_set] at hj; exact hj) (by rw [List.length_set] at hk; exact hk) e, fun j o' q => ?_, fun j o' q hu' => ?_, fun a z => ?_⟩
  · rw [List.length_set]
    by_cases h1 : i = j
    · subst h1
      rw [List.getElem?_set_self hi] at q
      cases q
      exact ho
    · rw [List.getElem?_set_ne h1] at q
      have hj := (List.getElem?_eq_some_iff.mp q).1
      exact (R.obj j o' q).ext E fun u hu => by rw [upd_ne (fun z => h1 (R.inj j i hj hi z).symm)]; exact hu
  · by_cases h1 : i = j
    · subst h1; exact R.liv i o0 hi0 hu
    · rw [List.getElem?_set_ne h1] at q
      exact R.liv j o' q hu'
  · by_cases e : a = μ i
    · rw [e]; exact ⟨o, upd_same, h1, h2⟩
    · obtain ⟨u, h, h'⟩ := R.trk a z
      exact ⟨u, by rw [upd_ne e]; exact h, h'⟩
end
end Mi
/-! Mi2: outcomes, transformers, strict operations. -/
namespace Mi
open PySem L2

/-- an exception: its class, its fields -/
structure Xc where
  c : Nat
  fs : List (Str × D)
inductive O (α : Type) where
  | no | ok (a : α) (st : Store) | ex (x : Xc) (st : Store)
def O.bind {α β : Type} (o : O α) (k : α → Store → O β) : O β := match o with
  | .no => .no
  | .ok a st => k a st
  | .ex x st => .ex x st
theorem O.bind_no {α β : Type} (k : α → Store → O β) : (O.no : O α).bind k = .no := rfl
theorem O.bind_ok {α β : Type} (a : α) (st : Store) (k : α → Store → O β) : (O.ok a st).bind k = k a st := rfl
theorem O.bind_ex {α β : Type} (x : Xc) (st : Store) (k : α → Store → O β) : (O.ex x st : O α).bind k = .ex x st := rfl
abbrev Rho := List (Option D)
abbrev M (α : Type) := Rho → Store → O α
inductive OS where
  | no | nx (ρ : Rho) (st : Store) | rt (d : D) (st : Store) | bk (ρ : Rho) (st : Store) | ct (ρ : Rho) (st : Store) | ex (x : Xc) (ρ : Rho) (st : Store)
abbrev MS := Rho → Store → OS

/-- what is fixed: the program, the written part, where classes stand -/
structure Cf where
  P : Program
  w : World
  K : PySem.W.Frag
  mg : Str → Option Value
  base : Heap
  cls : Nat → Addr
  xcl : Nat → Addr
abbrev Cf.Rel (C : Cf) (μ : Mu) (st : Store) (H : Hp) : Prop := Mi.Rel C.K C.cls μ st H
abbrev Cf.Env (C : Cf) (n : Nat) (μ : Mu) (H : Hp) (σ : L2.St) (ρ : Rho) : Prop := EnvR C.K n μ H σ ρ
def ExR (C : Cf) (n : Nat) (μ : Mu) (H : Hp) (cl : Value) (dd : Option Addr) (x : Xc) : Prop :=
  cl = .ref (C.xcl x.c) ∧ (x.fs = [] ∨ ∃ a vs, dd = some a ∧ H a = some (.xd vs) ∧ DatF C.K n μ H vs x.fs)

abbrev RelT (α β : Type) := PySem.W.Frag → Nat → Mu → Hp → β → α → Prop
def Post {α β : Type} (C : Cf) (R : RelT α β) (W : WX) (σ : L2.St) (Q : β → Hp → Prop) (n : Nat) (μ : Mu) (H : Hp) : O α → Prop
  | .no => False
  | .ok a st => ∀ (v : β) (μ' : Mu) (H' : Hp), Ext n μ H st.length μ' H' → C.Rel μ' st H' → R C.K st.length μ' H' v a → Q v H'
  | .ex x st => ∀ (cl : Value) (dd : Option Addr) (μ' : Mu) (H' : Hp), Ext n μ H st.length μ' H' → C.Rel μ' st H' → ExR C st.length μ' H' cl dd x → W cl dd σ H'
def TDg {α β : Type} (C : Cf) (R : RelT α β) (W : WX) (m : M α) : L2.St → Hp → (β → Hp → Prop) → Prop := fun σ H Q =>
  ∃ (μ : Mu) (ρ : Rho) (st : Store), C.Rel μ st H ∧ C.Env st.length μ H σ ρ ∧ Post C R W σ Q st.length μ H (m ρ st)
/-- the kinds of results -/
abbrev RB : RelT Bool Bool := fun _ _ _ _ v b => v = b
abbrev RO : RelT (Option Int) (Option Int) := fun _ _ _ _ v b => v = b
abbrev TD (C : Cf) (W : WX) (m : M D) : TE := TDg C Dat W m
abbrev TDT (C : Cf) (W : WX) (m : M Bool) : TT := TDg C RB W m
abbrev TDA (C : Cf) (W : WX) (m : M (List D)) : TA := TDg C DatL W m
abbrev TDO (C : Cf) (W : WX) (m : M (Option Int)) : TO := TDg C RO W m
/-- statements -/
def PostS (C : Cf) (W : WX) (D : Ends) (n : Nat) (μ : Mu) (H : Hp) : OS → Prop
  | .no => False
  | .nx ρ st => ∀ (σ : L2.St) (μ' : Mu) (H' : Hp), Ext n μ H st.length μ' H' → C.Rel μ' st H' → C.Env st.length μ' H' σ ρ → D.nx σ H'
  | .bk ρ st => ∀ (σ : L2.St) (μ' : Mu) (H' : Hp), Ext n μ H st.length μ' H' → C.Rel μ' st H' → C.Env st.length μ' H' σ ρ → D.bk σ H'
  | .ct ρ st => ∀ (σ : L2.St) (μ' : Mu) (H' : Hp), Ext n μ H st.length μ' H' → C.Rel μ' st H' → C.Env st.length μ' H' σ ρ → D.ct σ H'
  | .rt d st => ∀ (v : V) (μ' : Mu) (H' : Hp), Ext n μ H st.length μ' H' → C.Rel μ' st H' → Dat C.K st.length μ' H' v d → D.rt v H'
  | .ex x ρ st => ∀ (cl : Value) (dd : Option Addr) (σ : L2.St) (μ' : Mu) (H' : Hp), Ext n μ H st.length μ' H' → C.Rel μ' st H' → C.Env st.length μ' H' σ ρ → ExR C st.length μ' H' cl dd x → W cl dd σ H'
def TDS (C : Cf) (W : WX) (m : MS) : TS := fun D σ H => ∃ (μ : Mu) (ρ : Rho) (st : Store), C.Rel μ st H ∧ C.Env st.length μ H σ ρ ∧ PostS C W D st.length μ H (m ρ st)

section
variable {α β γ δ : Type} {C : Cf} {R : RelT α β} {R' : RelT γ δ} {W : WX} {σ : L2.St} {n n1 : Nat} {μ μ1 : Mu} {H H1 : Hp}
theorem Post.go {Q : β → Hp → Prop} {o : O α} (e : Ext n μ H n1 μ1 H1) (h : Post C R W σ Q n μ H o) : Post C R W σ Q n1 μ1 H1 o := by
  cases o with
  | no => exact h
  | ok a st => exact fun v μ' H' e' r d => h v μ' H' (e.trans e') r d
  | ex x st => exact fun cl dd μ' H' e' r d => h cl dd μ' H' (e.trans e') r d
theorem Post.imp {Q Q' : β → Hp → Prop} {o : O α} (h : Post C R W σ Q n μ H o) (hq : ∀ v H', Q v H' → Q' v H') : Post C R W σ Q' n μ H o := by
  cases o with
  | no => exact h
  | ok a st => exact fun v μ' H' e' r d => hq _ _ (h v μ' H' e' r d)
  | ex x st => exact h
theorem PostS.go {D : Ends} {o : OS} (e : Ext n μ H n1 μ1 H1) (h : PostS C W D n μ H o) : PostS C W D n1 μ1 H1 o := by
  cases o with
  | no => exact h
  | nx ρ st => exact fun v μ' H' e' r d => h v μ' H' (e.trans e') r d
  | bk ρ st => exact fun v μ' H' e' r d => h v μ' H' (e.trans e') r d
  | ct ρ st => exact fun v μ' H' e' r d => h v μ' H' (e.trans e') r d
  | rt ρ st => exact fun v μ' H' e' r d => h v μ' H' (e.trans e') r d
  | ex x ρ st => exact fun cl dd σ μ' H' e' r d => h cl dd σ μ' H' (e.trans e') r d
/-- the first part of what goes on -/
theorem Post.bind {Q : δ → Hp → Prop} {o : O α} {k : α → Store → O γ} (h : Post C R' W σ Q n μ H (o.bind k)) :
    Post C R W σ (fun v H1 => ∃ (a : α) (st1 : Store) (μ1 : Mu), o = .ok a st1 ∧ Ext n μ H st1.length μ1 H1 ∧ C.Rel μ1 st1 H1 ∧ R C.K st1.length μ1 H1 v a ∧ Post C R' W σ Q st1.length μ1 H1 (k a st1)) n μ H o := by
  cases o with
  | no => exact h
  | ok a st => exact fun v μ' H' e r d => ⟨a, st, μ', rfl, e, r, d, Post.go e h⟩
  | ex x st => exact h
theorem Post.ok_of {Q : β → Hp → Prop} {a : α} {st : Store} (h : Post C R W σ Q n μ H (.ok a st)) {v : β} {μ' : Mu} {H' : Hp} (e : Ext n μ H st.length μ' H') (r : C.Rel μ' st H') (d : R C.K st.length μ' H' v a) : Q v H' := h v μ' H' e r d
end

end Mi
namespace L2
open PySem
/-! ### any rule -/
section
variable {X : Cx}
theorem OpR.any {f : Value → Value → Sem Value} : OpR X f (fun x y H Q => ∃ r, OpR X f r ∧ r x y H Q) := by
  intro pins s σ H x y v u Q I rx ry ⟨r, hr, h⟩
  exact hr pins s σ H x y v u Q I rx ry h
theorem UnR.any {f : Value → Sem Value} : UnR X f (fun x H Q => ∃ r, UnR X f r ∧ r x H Q) := by
  intro pins s σ H x v Q I rx ⟨r, hr, h⟩
  exact hr pins s σ H x v Q I rx h
theorem CallR.any {f : Value} : CallR X f (fun xs H Q => ∃ r, CallR X f r ∧ r xs H Q) := by
  intro pins s σ H xs us Q I rx ⟨r, hr, h⟩
  exact hr pins s σ H xs us Q I rx h
theorem MtR.any {id : String} : MtR X id (fun x xs H Q => ∃ r, MtR X id r ∧ r x xs H Q) := by
  intro pins s σ H x xs v us Q I rx rs ⟨r, hr, h⟩
  exact hr pins s σ H x xs v us Q I rx rs h
theorem IxR.any : IxR X (fun x y H Q => ∃ r, IxR X r ∧ r x y H Q) := by
  intro value slice pins s σ H x y v u Q I rx ry ⟨r, hr, h⟩ hs
  exact hr value slice pins s σ H x y v u Q I rx ry h hs
theorem SlR.any : SlR X (fun x lo hi H Q => ∃ r, SlR X r ∧ r x lo hi H Q) := by
  intro pins s σ H x v vl vu lo hi sl Q I rx hs pl pu ⟨r, hr, h⟩
  exact hr pins s σ H x v vl vu lo hi sl Q I rx hs pl pu h
theorem TruR.any : TruR X (fun x H Q => ∃ r, TruR X r ∧ r x H Q) := by
  intro pins s σ H x v Q I rx ⟨r, hr, h⟩
  exact hr pins s σ H x v Q I rx h
theorem PE.imp {e : Expr} {t t' : TE} (h : PE X e t) (i : ∀ σ H Q, t' σ H Q → t σ H Q) : PE X e t' := ⟨fun pins s σ H Q I q => h.run pins s σ H Q I (i σ H Q q)⟩
theorem PT.imp {e : Expr} {t t' : TT} (h : PT X e t) (i : ∀ σ H Q, t' σ H Q → t σ H Q) : PT X e t' := ⟨fun pins s σ H Q I q => h.run pins s σ H Q I (i σ H Q q)⟩
theorem PW.imp {e : Expr} {t t' : TT} (h : PW X e t) (i : ∀ σ H Q, t' σ H Q → t σ H Q) : PW X e t' := ⟨fun whole pins s σ H Q I q => h.run whole pins s σ H Q I (i σ H Q q)⟩
theorem PA.imp {e : List Expr} {t t' : TA} (h : PA X e t) (i : ∀ σ H Q, t' σ H Q → t σ H Q) : PA X e t' := ⟨fun pos pins s σ H Q I q => h.run pos pins s σ H Q I (i σ H Q q)⟩
theorem PO.imp {e : Option Expr} {t t' : TO} (h : PO X e t) (i : ∀ σ H Q, t' σ H Q → t σ H Q) : PO X e t' := ⟨fun pins s σ H Q I q => h.run pins s σ H Q I (i σ H Q q)⟩
theorem PS.imp {e : Stmt} {t t' : TS} (h : PS X e t) (i : ∀ D σ H, t' D σ H → t D σ H) : PS X e t' := ⟨fun pins s σ H D I q => h.run pins s σ H D I (i D σ H q)⟩
theorem PSs.imp {e : List Stmt} {t t' : TS} (h : PSs X e t) (i : ∀ D σ H, t' D σ H → t D σ H) : PSs X e t' := ⟨fun pins s σ H D I q => h.run pins s σ H D I (i D σ H q)⟩
theorem PE.choose {e : Expr} {t' : TE} (h : ∀ σ H Q, t' σ H Q → ∃ t, PE X e t ∧ t σ H Q) : PE X e t' := ⟨fun pins s σ H Q I q => by
  obtain ⟨t, ht, q'⟩ := h σ H Q q
  exact ht.run pins s σ H Q I q'⟩
theorem PS.choose {e : Stmt} {t' : TS} (h : ∀ D σ H, t' D σ H → ∃ t, PS X e t ∧ t D σ H) : PS X e t' := ⟨fun pins s σ H D I q => by
  obtain ⟨t, ht, q'⟩ := h D σ H q
  exact ht.run pins s σ H D I q'⟩
theorem PI.choose {tg e : Expr} {t' : TI} (h : ∀ σ H Q, t' σ H Q → ∃ t, PI X tg e t ∧ t σ H Q) : PI X tg e t' := ⟨fun pins s σ H Q I q => by
  obtain ⟨t, ht, q'⟩ := h σ H Q q
  exact ht.run pins s σ H Q I q'⟩
end
end L2
namespace Mi
open PySem L2
section
variable {X : Cx}
theorem pe_no {e : Expr} {C : Cf} {W : WX} : PE X e (TD C W fun _ _ => .no) := ⟨fun pins s σ H Q I q => by
  obtain ⟨_, _, _, _, _, h⟩ := q
  exact h.elim⟩
theorem pt_no {e : Expr} {C : Cf} {W : WX} : PT X e (TDT C W fun _ _ => .no) := ⟨fun pins s σ H Q I q => by
  obtain ⟨_, _, _, _, _, h⟩ := q
  exact h.elim⟩
theorem ps_no {e : Stmt} {C : Cf} {W : WX} : PS X e (TDS C W fun _ _ => .no) := ⟨fun pins s σ H Q I q => by
  obtain ⟨_, _, _, _, _, h⟩ := q
  exact h.elim⟩
end

/-! ### strict operations -/
def mUn (f : D → Store → O D) (a : M D) : M D := fun ρ st => (a ρ st).bind f
def mBin (f : D → D → Store → O D) (a b : M D) : M D := fun ρ st => (a ρ st).bind fun x st1 => (b ρ st1).bind fun y st2 => f x y st2
def mNil : M (List D) := fun _ st => .ok [] st
def mCons (a : M D) (r : M (List D)) : M (List D) := fun ρ st => (a ρ st).bind fun x st1 => (r ρ st1).bind fun xs st2 => .ok (x :: xs) st2
def mApp (f : List D → Store → O D) (a : M (List D)) : M D := fun ρ st => (a ρ st).bind f
def mMt (f : D → List D → Store → O D) (o : M D) (a : M (List D)) : M D := fun ρ st => (o ρ st).bind fun x st1 => (a ρ st1).bind fun xs st2 => f x xs st2

/-- an operation on data is kept by a rule of values -/
def Snd2 (C : Cf) (r : R2) (f : D → D → Store → O D) : Prop := ∀ (μ : Mu) (st : Store) (H : Hp) (x y : V) (a b : D) (W : WX) (σ : L2.St) (Q : VK), C.Rel μ st H → Dat C.K st.length μ H x a → Dat C.K st.length μ H y b → Post C Dat W σ Q st.length μ H (f a b st) → r x y H Q
def Snd1 (C : Cf) (r : V → Hp → VK → Prop) (f : D → Store → O D) : Prop := ∀ (μ : Mu) (st : Store) (H : Hp) (x : V) (a : D) (W : WX) (σ : L2.St) (Q : VK), C.Rel μ st H → Dat C.K st.length μ H x a → Post C Dat W σ Q st.length μ H (f a st) → r x H Q
def SndL (C : Cf) (r : List V → Hp → VK → Prop) (f : List D → Store → O D) : Prop := ∀ (μ : Mu) (st : Store) (H : Hp) (xs : List V) (ds : List D) (W : WX) (σ : L2.St) (Q : VK), C.Rel μ st H → DatL C.K st.length μ H xs ds → Post C Dat W σ Q st.length μ H (f ds st) → r xs H Q

section
variable {C : Cf} {W : WX} {X : Cx}
theorem td_op {r : R2} {f : D → D → Store → O D} {ma mb : M D} (hf : Snd2 C r f) {σ : L2.St} {H : Hp} {Q : VK} (h : TD C W (mBin f ma mb) σ H Q) : tOp r (TD C W ma) (TD C W mb) σ H Q := by
  obtain ⟨μ, ρ, st, R, E, h⟩ := h
  refine ⟨μ, ρ, st, R, E, (Post.bind (R := Dat) h).imp fun v H1 ⟨a, st1, μ1, _, e1, R1, d1, h1⟩ => ?_⟩
  refine ⟨μ1, ρ, st1, R1, E.ext e1, (Post.bind (R := Dat) h1).imp fun y H2 ⟨b, st2, μ2, _, e2, R2, d2, h2⟩ => ?_⟩
  exact hf μ2 st2 H2 v y a b W σ Q R2 (d1.ext e2) d2 h2
theorem td_un {r : V → Hp → VK → Prop} {f : D → Store → O D} {ma : M D} (hf : Snd1 C r f) {σ : L2.St} {H : Hp} {Q : VK} (h : TD C W (mUn f ma) σ H Q) : tUn r (TD C W ma) σ H Q := by
  obtain ⟨μ, ρ, st, R, E, h⟩ := h
  refine ⟨μ, ρ, st, R, E, (Post.bind (R := Dat) h).imp fun v H1 ⟨a, st1, μ1, _, e1, R1, d1, h1⟩ => ?_⟩
  exact hf μ1 st1 H1 v a W σ Q R1 d1 h1
theorem pa_nilD : PA X [] (TDA C W mNil) := pa_nil.imp fun σ H Q ⟨μ, ρ, st, R, E, h⟩ => h [] μ H Ext.refl R .nil
theorem pa_consD {e : Expr} {es : List Expr} {ma : M D} {mr : M (List D)} (ha : PE X e (TD C W ma)) (hr : PA X es (TDA C W mr)) (hs : starEach (e :: es) X.env = (false, eval e X.env) :: starEach es X.env) : PA X (e :: es) (TDA C W (mCons ma mr)) :=
  (pa_cons ha hr hs).imp fun σ H Q ⟨μ, ρ, st, R, E, h⟩ => by
    refine ⟨μ, ρ, st, R, E, (Post.bind (R := Dat) h).imp fun v H1 ⟨a, st1, μ1, _, e1, R1, d1, h1⟩ => ?_⟩
    refine ⟨μ1, ρ, st1, R1, E.ext e1, (Post.bind (R := DatL) h1).imp fun y H2 ⟨b, st2, μ2, _, e2, R2, d2, h2⟩ => ?_⟩
    exact h2 (v :: y) μ2 H2 Ext.refl R2 (.cons (d1.ext e2) d2)
theorem td_app {r : List V → Hp → VK → Prop} {f : List D → Store → O D} {ma : M (List D)} (hf : SndL C r f) {σ : L2.St} {H : Hp} {Q : VK} (h : TD C W (mApp f ma) σ H Q) : TDA C W ma σ H fun vs H1 => r vs H1 Q := by
  obtain ⟨μ, ρ, st, R, E, h⟩ := h
  refine ⟨μ, ρ, st, R, E, (Post.bind (R := DatL) h).imp fun v H1 ⟨a, st1, μ1, _, e1, R1, d1, h1⟩ => ?_⟩
  exact hf μ1 st1 H1 v a W σ Q R1 d1 h1

/-- rules as expressions -/
theorem pe_opD {a b : Expr} {pos : Pos} {op : Operator} {f : D → D → Store → O D} {ma mb : M D} (hf : Snd2 C (fun x y H Q => ∃ r, OpR X (binaryOp op) r ∧ r x y H Q) f) (ha : PE X a (TD C W ma)) (hb : PE X b (TD C W mb)) : PE X (.BinOp a op b pos) (TD C W (mBin f ma mb)) :=
  (pe_op OpR.any ha hb).imp fun _ _ _ h => td_op hf h
theorem pe_unD {a : Expr} {pos : Pos} {op : UnaryOp} {f : D → Store → O D} {ma : M D} (hf : Snd1 C (fun x H Q => ∃ r, UnR X (unaryOp op) r ∧ r x H Q) f) (ha : PE X a (TD C W ma)) : PE X (.UnaryOp op a pos) (TD C W (mUn f ma)) :=
  (pe_un UnR.any ha).imp fun _ _ _ h => td_un hf h
theorem pe_cmpD {a b : Expr} {pos : Pos} {op : CmpOp} {f : D → D → Store → O D} {ma mb : M D} (hf : Snd2 C (fun x y H Q => ∃ r, OpR X (compareOp op) r ∧ r x y H Q) f) (ha : PE X a (TD C W ma)) (hb : PE X b (TD C W mb)) (hm : behindInMarks op b = false) : PE X (.Compare a [op] [b] pos) (TD C W (mBin f ma mb)) :=
  (pe_cmpR OpR.any ha hb hm).imp fun _ _ _ h => td_op hf h
theorem pe_ixD {a b : Expr} {pos : Pos} {f : D → D → Store → O D} {ma mb : M D} (hf : Snd2 C (fun x y H Q => ∃ r, IxR X r ∧ r x y H Q) f) (ha : PE X a (TD C W ma)) (hb : PE X b (TD C W mb)) (hs : PlainIx b) : PE X (.Subscript a b pos) (TD C W (mBin f ma mb)) :=
  (pe_ix IxR.any ha hb hs).imp fun _ _ _ h => td_op hf h
end
end Mi
/-! Mi3: operations on data. -/
namespace Mi
open PySem L2

/-! ### new lists and tuples -/
def mkL (b : Bool) (ds : List D) (st : Store) : O D := if ds.length ≤ sizeLine then (if b = true then .ok (.ref st.length) (st ++ [.lst ds]) else .ok (.lst ds) st) else .no
def mkT (ds : List D) (st : Store) : O D := if ds.length ≤ sizeLine then .ok (.tup ds) st else .no
section
variable {C : Cf} {W : WX} {X : Cx} {σ : L2.St} {Q : VK} {μ : Mu} {st : Store} {H : Hp}
theorem mkL_len {b : Bool} {ds : List D} (h : Post C Dat W σ Q st.length μ H (mkL b ds st)) : ds.length ≤ sizeLine := by
  unfold mkL at h
  split at h
  · assumption
  · exact False.elim h
theorem mkT_len {ds : List D} (h : Post C Dat W σ Q st.length μ H (mkT ds st)) : ds.length ≤ sizeLine := by
  unfold mkT at h
  split at h
  · assumption
  · exact False.elim h
theorem newL {b : Bool} {ds : List D} {vs : List V} (R : C.Rel μ st H) (h : Post C Dat W σ Q st.length μ H (mkL b ds st)) (hs : DatL C.K st.length μ H vs ds) {p : Addr} (hp : H p = none) : Q (.ref p) (upd H p (.lst vs)) := by
  have hl := mkL_len h
  unfold mkL at h
  rw [if_pos hl] at h
  cases b with
  | true =>
    have h' : Post C Dat W σ Q st.length μ H (.ok (.ref st.length) (st ++ [.lst ds])) := h
    have el : (st ++ [Ob.lst ds]).length = st.length + 1 := by simp
    have E := R.ext_new (o := .lst vs) hp
    refine h' (.ref p) (mset μ st.length p) _ (by rw [el]; exact E) (R.alloc hp (fun _ z => by cases z) (fun _ _ z => by cases z) ⟨vs, upd_same, hs.ext E, hl⟩) ?_
    rw [el]
    have z : Dat C.K (st.length + 1) (mset μ st.length p) (upd H p (.lst vs)) (.ref (mset μ st.length p st.length)) (.ref st.length) := .ref (Nat.lt_succ_self _)
    rw [mset_at] at z
    exact z
  | false =>
    have h' : Post C Dat W σ Q st.length μ H (.ok (.lst ds) st) := h
    obtain ⟨E, nl⟩ := R.fresh (o := .lst vs) hp
    exact h' (.ref p) μ _ E (R.upd hp) (.lst upd_same nl hl (hs.ext E))
theorem newT {ds : List D} {vs : List V} (R : C.Rel μ st H) (h : Post C Dat W σ Q st.length μ H (mkT ds st)) (hs : DatL C.K st.length μ H vs ds) {p : Addr} (hp : H p = none) : Q (.ref p) (upd H p (.tup vs)) := by
  have hl := mkT_len h
  unfold mkT at h
  rw [if_pos hl] at h
  have h' : Post C Dat W σ Q st.length μ H (.ok (.tup ds) st) := h
  obtain ⟨E, nl⟩ := R.fresh (o := .tup vs) hp
  exact h' (.ref p) μ _ E (R.upd hp) (.tup (.of upd_same) hl (hs.ext E))
/-- a value that stands already -/
theorem Post.now {d : D} {v : V} (R : C.Rel μ st H) (h : Post C Dat W σ Q st.length μ H (.ok d st)) (hv : Dat C.K st.length μ H v d) : Q v H := h v μ H Ext.refl R hv
end

/-! ### what a thing holds -/
def lstOf (st : Store) : D → Option (List D)
  | .lst xs => some xs
  | .ref i => match st[i]? with
    | some (.lst xs) => some xs
    | _ => none
  | _ => none
def seqOf (st : Store) : D → Option (List D)
  | .tup xs => some xs
  | .frz xs => some xs
  | d => lstOf st d
section
variable {C : Cf} {μ : Mu} {st : Store} {H : Hp}
theorem lstOf_ok (R : C.Rel μ st H) {v : V} {d : D} {xs : List D} (h : Dat C.K st.length μ H v d) (e : lstOf st d = some xs) : ∃ a vs, v = .ref a ∧ H a = some (.lst vs) ∧ DatL C.K st.length μ H vs xs ∧ xs.length ≤ sizeLine := by
  cases h with
  | lst h nl hl hs => cases e; exact ⟨_, _, rfl, h, hs, hl⟩
  | @ref i hi =>
    have e' : (match st[i]? with | some (.lst xs) => some xs | _ => none) = some xs := e
    cases q : st[i]? with
    | none => rw [q] at e'; cases e'
    | some o =>
      rw [q] at e'
      cases o with
      | lst ys =>
        cases e'
        obtain ⟨vs, h1, h2, h3⟩ := R.obj i _ q
        exact ⟨_, vs, rfl, h1, h2, h3⟩
      | dct _ => cases e'
      | ins _ _ => cases e'
      | lck _ => cases e'
  | _ => cases e
theorem seqOf_ok (R : C.Rel μ st H) {v : V} {d : D} {xs : List D} (h : Dat C.K st.length μ H v d) (e : seqOf st d = some xs) : ∃ a vs, v = .ref a ∧ (SqL C.K H a vs ∨ SqT C.K H a vs) ∧ DatL C.K st.length μ H vs xs ∧ xs.length ≤ sizeLine := by
  cases h with
  | tup h hl hs => cases e; exact ⟨_, _, rfl, .inr h, hs, hl⟩
  | frz h hl hs => cases e; exact ⟨_, _, rfl, .inl h.sq, hs, hl⟩
  | lst h nl hl hs => cases e; exact ⟨_, _, rfl, .inl (.of h), hs, hl⟩
  | @ref i hi =>
    obtain ⟨a, vs, h1, h2, h3, h4⟩ := lstOf_ok R (.ref hi) (show lstOf st (.ref i) = some xs from e)
    exact ⟨a, vs, h1, .inl (.of h2), h3, h4⟩
  | _ => cases e
end

/-! ### equality -/
mutual
def toPy : D → PyData
  | .non => .none
  | .bl b => .bool b
  | .int i => .int i
  | .str s => .str s
  | .tup xs => .tuple (toPys xs)
  | .lst xs => .list (toPys xs)
  | .frz xs => .list (toPys xs)
  | .dct _ => .none
  | .ref _ => .none
def toPys : List D → List PyData
  | [] => []
  | x :: r => toPy x :: toPys r
end
theorem toPys_map : ∀ l : List D, toPys l = l.map toPy
  | [] => rfl
  | x :: r => by rw [toPys, List.map_cons, toPys_map r]
def eqD (a b : D) : Bool := PyData.eqv (toPy a) (toPy b)
/-- all or nothing -/
def sq {α : Type} : List (Option α) → Option (List α)
  | [] => some []
  | some x :: r => (sq r).map (x :: ·)
  | none :: _ => none
/-- data without references; k: how deep -/
def deep : Nat → Store → D → Option D
  | 0, _, _ => none
  | _ + 1, _, .non => some .non
  | _ + 1, _, .bl b => some (.bl b)
  | _ + 1, _, .int i => some (.int i)
  | _ + 1, _, .str s => some (.str s)
  | k + 1, st, .tup xs => (sq (xs.map (deep k st))).map .tup
  | k + 1, st, .lst xs => (sq (xs.map (deep k st))).map .lst
  | k + 1, st, .frz xs => (sq (xs.map (deep k st))).map .lst
  | k + 1, st, .ref i => match st[i]? with
    | some (.lst xs) => (sq (xs.map (deep k st))).map .lst
    | _ => none
  | _ + 1, _, .dct _ => none
section
variable {C : Cf} {μ : Mu} {st : Store} {H : Hp}
def Fine (C : Cf) (H : Hp) (k : Nat) (v : V) (p : PyData) : Prop := Dp C.K H v p ∧ p.canLay0 = true ∧ p.depth ≤ k
theorem canLay0_list (l : List PyData) : (PyData.list l).canLay0 = PyData.canLayAll0 l := by simp [PyData.canLay0]
theorem canLay0_tuple (l : List PyData) : (PyData.tuple l).canLay0 = PyData.canLayAll0 l := by simp [PyData.canLay0]
theorem depth_list (l : List PyData) : (PyData.list l).depth = PyData.depthAll l + 1 := by simp [PyData.depth]
theorem depth_tuple (l : List PyData) : (PyData.tuple l).depth = PyData.depthAll l + 1 := by simp [PyData.depth]
theorem deep_all {k : Nat} (ih : ∀ (v : V) (d d' : D), Dat C.K st.length μ H v d → deep k st d = some d' → Fine C H k v (toPy d')) :
    ∀ (xs : List D) (vs : List V) (ys : List D), DatL C.K st.length μ H vs xs → sq (xs.map (deep k st)) = some ys → DpAll C.K H vs (toPys ys) ∧ PyData.canLayAll0 (toPys ys) = true ∧ PyData.depthAll (toPys ys) ≤ k
  | [], vs, ys, h, e => by
    cases h
    cases e
    exact ⟨.nil, by simp [toPys, PyData.canLayAll0], by simp [toPys, PyData.depthAll]⟩
  | d :: ds, vs, ys, h, e => by
    cases h with
    | cons h1 h2 =>
      rw [List.map_cons] at e
      cases q : deep k st d with
      | none => rw [q] at e; cases e
      | some d' =>
        rw [q] at e
        cases q2 : sq (ds.map (deep k st)) with
        | none => simp only [sq, q2] at e; cases e
        | some ys' =>
          simp only [sq, q2] at e
          cases e
          obtain ⟨a1, a2, a3⟩ := ih _ d d' h1 q
          obtain ⟨b1, b2, b3⟩ := deep_all ih ds _ ys' h2 q2
          refine ⟨.cons a1 b1, ?_, ?_⟩
          · simp [toPys, PyData.canLayAll0, a2, b2]
          · simp only [toPys, PyData.depthAll]; omega
theorem map_some {α β : Type} {o : Option α} {f : α → β} {b : β} (h : o.map f = some b) : ∃ a, o = some a ∧ f a = b := by
  cases o with
  | none => cases h
  | some a => exact ⟨a, rfl, Option.some.inj h⟩
theorem deep_ok (R : C.Rel μ st H) : ∀ (k : Nat) (v : V) (d d' : D), Dat C.K st.length μ H v d → deep k st d = some d' → Fine C H k v (toPy d')
  | 0, _, _, _, _, e => by cases e
  | k + 1, v, d, d', h, e => by
    have key := deep_all (deep_ok R k)
    have fin : ∀ (a : Addr) (vs : List V) (xs ys : List D), DatL C.K st.length μ H vs xs → SqL C.K H a vs → sq (xs.map (deep k st)) = some ys → Fine C H (k + 1) (.ref a) (.list (toPys ys)) := fun a vs xs ys hs hq e => by
      obtain ⟨b1, b2, b3⟩ := key xs vs ys hs e
      exact ⟨.lst hq b1, by rw [canLay0_list]; exact b2, by rw [depth_list]; omega⟩
    cases h with
    | non => cases e; exact ⟨.non, by simp [toPy, PyData.canLay0], by simp [toPy, PyData.depth]⟩
    | bl b => cases e; exact ⟨.bl b, by simp [toPy, PyData.canLay0], by simp [toPy, PyData.depth]⟩
    | int i => cases e; exact ⟨.int i, by simp [toPy, PyData.canLay0], by simp [toPy, PyData.depth]⟩
    | str hl ok => cases e; exact ⟨.str _, by simp [toPy, PyData.canLay0, ok], by simp [toPy, PyData.depth]⟩
    | @tup a vs xs h hl hs =>
      obtain ⟨ys, q, rfl⟩ := map_some (show (sq (xs.map (deep k st))).map D.tup = some d' from e)
      obtain ⟨b1, b2, b3⟩ := key xs vs ys hs q
      exact ⟨.tup h b1, by rw [toPy, canLay0_tuple]; exact b2, by rw [toPy, depth_tuple]; omega⟩
    | @lst a vs xs h nl hl hs =>
      obtain ⟨ys, q, rfl⟩ := map_some (show (sq (xs.map (deep k st))).map D.lst = some d' from e)
      exact fin a vs xs ys hs (.of h) q
    | @frz a vs xs h hl hs =>
      obtain ⟨ys, q, rfl⟩ := map_some (show (sq (xs.map (deep k st))).map D.lst = some d' from e)
      exact fin a vs xs ys hs h.sq q
    | dct h nl hl hs => cases e
    | @ref i hi =>
      have e' : (match st[i]? with | some (.lst xs) => (sq (xs.map (deep k st))).map D.lst | _ => none) = some d' := e
      cases q : st[i]? with
      | none => rw [q] at e'; cases e'
      | some o =>
        rw [q] at e'
        cases o with
        | lst xs =>
          obtain ⟨ys, q2, rfl⟩ := map_some (show (sq (xs.map (deep k st))).map D.lst = some d' from e')
          obtain ⟨vs, h1, h2, h3⟩ := R.obj i _ q
          exact fin _ vs xs ys h2 (.of h1) q2
        | dct _ => cases e'
        | ins _ _ => cases e'
        | lck _ => cases e'
theorem Fine.shaped {v : V} {p : PyData} (h : Fine C H 64 v p) : SeqAt.shaped p = true := by
  obtain ⟨_, h1, h2⟩ := h
  simp [SeqAt.shaped, h1, h2]
end

/-! ### operators -/
def dctOf (st : Store) : D → Option (List (Key × D))
  | .dct xs => some xs
  | .ref i => match st[i]? with
    | some (.dct xs) => some xs
    | _ => none
  | _ => none
/-- .. also of a locked one -/
def rdOf (st : Store) : D → Option (List (Key × D))
  | .dct xs => some xs
  | .ref i => match st[i]? with
    | some (.dct xs) => some xs
    | some (.lck xs) => some xs
    | _ => none
  | _ => none
/-- d == {} -/
def eqE (neg : Bool) (a b : D) (st : Store) : O D := match dctOf st a, dctOf st b with
  | some ks, some [] => .ok (.bl (if neg then !ks.isEmpty else ks.isEmpty)) st
  | _, _ => .no
def dEq (neg : Bool) (a b : D) (st : Store) : O D := match deep 64 st a, deep 64 st b with
  | some x, some y => .ok (.bl (if neg then !eqD x y else eqD x y)) st
  | _, _ => eqE neg a b st
def dAdd (m : Bool) (a b : D) (st : Store) : O D := match a, b with
  | .int i, .int j => .ok (.int (i + j)) st
  | .str x, .str y => if x.length + y.length ≤ sizeLine then .ok (.str (x ++ y)) st else .no
  | .tup xs, .tup ys => mkT (xs ++ ys) st
  | a, b => match lstOf st a, lstOf st b with
    | some xs, some ys => mkL m (xs ++ ys) st
    | _, _ => .no
def dSub (a b : D) (st : Store) : O D := match a, b with
  | .int i, .int j => .ok (.int (i - j)) st
  | _, _ => .no
theorem strOk_append {x y : Str} (hx : PyData.strOk x = true) (hy : PyData.strOk y = true) : PyData.strOk (x ++ y) = true := by
  unfold PyData.strOk at *
  rw [Str.cps_append, Array.all_append, hx, hy]
  rfl
section
variable {C : Cf} {μ : Mu} {st : Store} {H : Hp}
theorem dctOf_ok (R : C.Rel μ st H) {v : V} {d : D} {xs : List (Key × D)} (h : Dat C.K st.length μ H v d) (e : dctOf st d = some xs) : ∃ a vs, v = .ref a ∧ H a = some (.dK vs) ∧ DatK C.K st.length μ H vs xs ∧ xs.length ≤ sizeLine := by
  cases h with
  | dct h nl hl hs => cases e; exact ⟨_, _, rfl, h, hs, hl⟩
  | @ref i hi =>
    have e' : (match st[i]? with | some (.dct xs) => some xs | _ => none) = some xs := e
    cases q : st[i]? with
    | none => rw [q] at e'; cases e'
    | some o =>
      rw [q] at e'
      cases o with
      | dct ys =>
        cases e'
        obtain ⟨vs, h1, h2, h3⟩ := R.obj i _ q
        exact ⟨_, vs, rfl, h1, h2, h3⟩
      | lst _ => cases e'
      | ins _ _ => cases e'
      | lck _ => cases e'
  | _ => cases e
theorem rdOf_ok (R : C.Rel μ st H) {v : V} {d : D} {xs : List (Key × D)} (h : Dat C.K st.length μ H v d) (e : rdOf st d = some xs) : ∃ a vs, v = .ref a ∧ Rd H a (.dK vs) ∧ DatK C.K st.length μ H vs xs ∧ xs.length ≤ sizeLine := by
  cases h with
  | dct h nl hl hs => cases e; exact ⟨_, _, rfl, .inl h, hs, hl⟩
  | @ref i hi =>
    have e' : (match st[i]? with | some (.dct xs) => some xs | some (.lck xs) => some xs | _ => none) = some xs := e
    cases q : st[i]? with
    | none => rw [q] at e'; cases e'
    | some o =>
      rw [q] at e'
      cases o with
      | dct ys =>
        cases e'
        obtain ⟨vs, h1, h2, h3⟩ := R.obj i _ q
        exact ⟨_, vs, rfl, .inl h1, h2, h3⟩
      | lck ys =>
        cases e'
        obtain ⟨vs, o, h1, h2, h3⟩ := R.obj i _ q
        exact ⟨_, vs, rfl, .inr ⟨o, h1⟩, h2, h3⟩
      | lst _ => cases e'
      | ins _ _ => cases e'
  | _ => cases e
end
section
variable {X : Cx}
theorem op_eqE (hu : X.A.units < cLine) : OpR X (compareOp .Eq) (fun x y H Q => ∃ a b ks, x = .ref a ∧ y = .ref b ∧ H a = some (.dK ks) ∧ H b = some (.dK []) ∧ Q (.bl ks.isEmpty) H) := by
  intro pins s σ H x y v u Q I rx ry h
  obtain ⟨a, b, ks, rfl, rfl, ea, eb, q⟩ := h
  obtain rfl : v = Value.ref a := rx
  obtain rfl : u = Value.ref b := ry
  obtain ⟨_, ya, va, ra, da⟩ := (show ObjOk X.prog X.w H s.heap a (.dK ks) from I.hok a _ ea)
  obtain ⟨_, yb, vb, rb, db⟩ := (show ObjOk X.prog X.w H s.heap b (.dK []) from I.hok b _ eb)
  have lb : vb = [] := List.length_eq_zero_iff.mp rb.length.symm
  subst lb
  have la := ra.length
  refine PySem.W.keq_eq (knd := mixKind X.prog X.w) (r := true) ya yb da db hu (fun e => ?_) (fin_bl I q ?_)
  · have : va = [] := List.length_eq_zero_iff.mp e
    subst this; exact .nil
  · cases va with
    | nil => have : ks = [] := List.length_eq_zero_iff.mp la; subst this; rfl
    | cons z r => cases ks with
      | nil => cases la
      | cons _ _ => rfl
theorem op_neE (hu : X.A.units < cLine) : OpR X (compareOp .NotEq) (fun x y H Q => ∃ a b ks, x = .ref a ∧ y = .ref b ∧ H a = some (.dK ks) ∧ H b = some (.dK []) ∧ Q (.bl (!ks.isEmpty)) H) := by
  intro pins s σ H x y v u Q I rx ry h
  obtain ⟨a, b, ks, rfl, rfl, ea, eb, q⟩ := h
  obtain rfl : v = Value.ref a := rx
  obtain rfl : u = Value.ref b := ry
  obtain ⟨_, ya, va, ra, da⟩ := (show ObjOk X.prog X.w H s.heap a (.dK ks) from I.hok a _ ea)
  obtain ⟨_, yb, vb, rb, db⟩ := (show ObjOk X.prog X.w H s.heap b (.dK []) from I.hok b _ eb)
  have lb : vb = [] := List.length_eq_zero_iff.mp rb.length.symm
  subst lb
  have la := ra.length
  refine PySem.W.keq_ne (knd := mixKind X.prog X.w) (r := true) ya yb da db hu (fun e => ?_) (fin_bl I q ?_)
  · have : va = [] := List.length_eq_zero_iff.mp e
    subst this; exact .nil
  · cases va with
    | nil => have : ks = [] := List.length_eq_zero_iff.mp la; subst this; rfl
    | cons z r => cases ks with
      | nil => cases la
      | cons _ _ => rfl
end
section
variable {C : Cf} {X : Cx} {W : WX} {σ : L2.St} {Q : VK} {μ : Mu} {st : Store} {H : Hp}
theorem eqE_parts {neg : Bool} {x y : V} {a b : D} (R : C.Rel μ st H) (da : Dat C.K st.length μ H x a) (db : Dat C.K st.length μ H y b) (h : Post C Dat W σ Q st.length μ H (eqE neg a b st)) :
    ∃ p q ks, x = .ref p ∧ y = .ref q ∧ H p = some (.dK ks) ∧ H q = some (.dK []) ∧ Q (.bl (if neg then !ks.isEmpty else ks.isEmpty)) H := by
  unfold eqE at h
  cases ea : dctOf st a with
  | none => rw [ea] at h; exact False.elim h
  | some ks =>
    cases eb : dctOf st b with
    | none => rw [ea, eb] at h; exact False.elim h
    | some ls =>
      rw [ea, eb] at h
      cases ls with
      | cons _ _ => exact False.elim h
      | nil =>
        obtain ⟨p, vs, rfl, hp, hv, _⟩ := dctOf_ok R da ea
        obtain ⟨q, ws, rfl, hq, hw, _⟩ := dctOf_ok R db eb
        cases hw
        refine ⟨p, q, vs, rfl, rfl, hp, hq, ?_⟩
        have : vs.isEmpty = ks.isEmpty := by cases hv <;> rfl
        rw [this]
        exact Post.now R h (.bl _)
end
section
variable {C : Cf} {X : Cx}
theorem snd_eq (hK : X.K = C.K) (hu : X.A.units + 64 < cLine) : Snd2 C (fun x y H Q => ∃ r, OpR X (compareOp .Eq) r ∧ r x y H Q) (dEq false) := by
  intro μ st H x y a b W σ Q R da db h
  unfold dEq at h
  cases ea : deep 64 st a with
  | none => rw [ea] at h; obtain ⟨p, q, ks, h1, h2, h3, h4, h5⟩ := eqE_parts R da db h; exact ⟨_, op_eqE (by omega), p, q, ks, h1, h2, h3, h4, h5⟩
  | some a' =>
    cases eb : deep 64 st b with
    | none => rw [ea, eb] at h; obtain ⟨p, q, ks, h1, h2, h3, h4, h5⟩ := eqE_parts R da db h; exact ⟨_, op_eqE (by omega), p, q, ks, h1, h2, h3, h4, h5⟩
    | some b' =>
      rw [ea, eb] at h
      have fa := deep_ok R 64 x a a' da ea
      have fb := deep_ok R 64 y b b' db eb
      exact ⟨_, op_eqD hu, _, _, by rw [hK]; exact fa.1, by rw [hK]; exact fb.1, fa.shaped, fb.shaped, Post.now R h (.bl _)⟩
theorem snd_ne (hK : X.K = C.K) (hu : X.A.units + 64 < cLine) : Snd2 C (fun x y H Q => ∃ r, OpR X (compareOp .NotEq) r ∧ r x y H Q) (dEq true) := by
  intro μ st H x y a b W σ Q R da db h
  unfold dEq at h
  cases ea : deep 64 st a with
  | none => rw [ea] at h; obtain ⟨p, q, ks, h1, h2, h3, h4, h5⟩ := eqE_parts R da db h; exact ⟨_, op_neE (by omega), p, q, ks, h1, h2, h3, h4, h5⟩
  | some a' =>
    cases eb : deep 64 st b with
    | none => rw [ea, eb] at h; obtain ⟨p, q, ks, h1, h2, h3, h4, h5⟩ := eqE_parts R da db h; exact ⟨_, op_neE (by omega), p, q, ks, h1, h2, h3, h4, h5⟩
    | some b' =>
      rw [ea, eb] at h
      have fa := deep_ok R 64 x a a' da ea
      have fb := deep_ok R 64 y b b' db eb
      exact ⟨_, op_neD hu, _, _, by rw [hK]; exact fa.1, by rw [hK]; exact fb.1, fa.shaped, fb.shaped, Post.now R h (.bl _)⟩
theorem snd_add (hK : X.K = C.K) (m : Bool) : Snd2 C (fun x y H Q => ∃ r, OpR X (binaryOp .Add) r ∧ r x y H Q) (dAdd m) := by
  intro μ st H x y a b W σ Q R da db h
  have lists : ∀ xs ys, lstOf st a = some xs → lstOf st b = some ys → Post C Dat W σ Q st.length μ H (mkL m (xs ++ ys) st) → ∃ r, OpR X (binaryOp .Add) r ∧ r x y H Q := fun xs ys ea eb h => by
    obtain ⟨p, vs, rfl, hp, hv, _⟩ := lstOf_ok R da ea
    obtain ⟨q, ws, rfl, hq, hw, _⟩ := lstOf_ok R db eb
    refine ⟨_, op_cat, p, q, vs, ws, rfl, rfl, hp, hq, ?_, fun z hz => newL R h (hv.append hw) hz⟩
    have := mkL_len h
    rw [List.length_append] at this
    rw [hv.length, hw.length]; exact this
  have rest : Post C Dat W σ Q st.length μ H (match lstOf st a, lstOf st b with | some xs, some ys => mkL m (xs ++ ys) st | _, _ => .no) → ∃ r, OpR X (binaryOp .Add) r ∧ r x y H Q := fun h => by
    cases ea : lstOf st a with
    | none => rw [ea] at h; exact False.elim h
    | some xs =>
      cases eb : lstOf st b with
      | none => rw [ea, eb] at h; exact False.elim h
      | some ys => rw [ea, eb] at h; exact lists xs ys ea eb h
  cases da with
  | int i =>
    cases db with
    | int j => exact ⟨_, op_add, i, j, rfl, rfl, Post.now R h (.int _)⟩
    | _ => exact rest h
  | @str x hl ok =>
    cases db with
    | @str y hl' ok' =>
      have h' : Post C Dat W σ Q st.length μ H (if x.length + y.length ≤ sizeLine then .ok (.str (x ++ y)) st else .no) := h
      split at h'
      · rename_i hz
        refine ⟨_, op_add_str, x, y, rfl, rfl, hz, Post.now R h' (.str ?_ (strOk_append ok ok'))⟩
        show (x ++ y).cps.size ≤ _
        rw [Str.cps_append, Array.size_append]; exact hz
      · exact False.elim h'
    | _ => exact rest h
  | @tup p vs xs hT hl hs =>
    cases db with
    | @tup q ws ys hT' hl' hs' =>
      have h' : Post C Dat W σ Q st.length μ H (mkT (xs ++ ys) st) := h
      have hz := mkT_len h'
      have hz' : vs.length + ws.length ≤ sizeLine := by rw [hs.length, hs'.length, ← List.length_append]; exact hz
      have nowT : ∀ (v : V), Dat C.K st.length μ H v (.tup (xs ++ ys)) → Q v H := fun v hv => by
        unfold mkT at h'
        rw [if_pos hz] at h'
        exact Post.now R h' hv
      refine ⟨_, op_catA, p, q, vs, ws, rfl, rfl, by rw [hK]; exact hT, by rw [hK]; exact hT', hz', fun e => ?_, fun _ e => ?_, fun _ _ z hzz => newT R h' (hs.append hs') hzz⟩
      · have : xs = [] := by
          have := hs.length
          rw [e] at this
          exact List.length_eq_zero_iff.mp this.symm
        subst this
        exact nowT _ (.tup hT' hl' hs')
      · have : ys = [] := by
          have := hs'.length
          rw [e] at this
          exact List.length_eq_zero_iff.mp this.symm
        subst this
        rw [List.append_nil] at nowT
        exact nowT _ (.tup hT hl hs)
    | _ => exact rest h
  | _ => exact rest h
theorem snd_sub : Snd2 C (fun x y H Q => ∃ r, OpR X (binaryOp .Sub) r ∧ r x y H Q) dSub := by
  intro μ st H x y a b W σ Q R da db h
  cases da with
  | int i =>
    cases db with
    | int j => exact ⟨_, op_sub, i, j, rfl, rfl, Post.now R h (.int _)⟩
    | _ => exact False.elim h
  | _ => exact False.elim h
end
end Mi
/-! Mi3a: a tuple told over once, or not at all. -/
namespace Mi
open PySem PySem.Spec L2 PyProof.Rows
theorem tup_none (l : Addr) (items : Array Value) (n : Nat) (dd : Option Addr) (sl : Array (Option Value)) (x : Int) (u : Tok) (c0 : (decide (x < -(2 ^ 63)) || decide (x ≥ 2 ^ 63)) = false)
    (c1 : (items.isEmpty || x == 1) = false) (c2 : (decide (x ≤ 0) || items.isEmpty) = true) :
    Meets (Builtin.«tuple.__mul__» ⟨[.ref l, .int x u], []⟩) (fun _ R s => s.heap.get? l = some { cls := .type "tuple", dict := dd, data := .seq items n, slots := sl } ∧
      R (.ok (.ret (Value.ref s.heap.objs.size))) { s with heap := s.heap.push { cls := Value.type "tuple", data := Data.seq #[] }, toks := s.toks }) :=
  .of_wp fun prog w A R s h => by
    obtain ⟨hp, g, d, tk, os⟩ := s
    obtain ⟨hl, h⟩ := h
    have f1 := AutoSeq1.idx_int
    wp_walk using wpAny_loadPart' hl
    repeat (first
      | (refine wpAny_ite_false (decide_eq_false (by rw [c0]; exact Bool.false_ne_true)) ?_ <;> wp_walk using wpAny_loadPart' hl)
      | (refine wpAny_ite_false (decide_eq_false (by rw [c1]; exact Bool.false_ne_true)) ?_ <;> wp_walk using wpAny_loadPart' hl)
      | (refine wpAny_ite_true (decide_eq_true (by rw [c2])) ?_ <;> wp_walk using wpAny_loadPart' hl))
    exact ⟨_, rfl, h⟩
theorem tup_once (l : Addr) (items : Array Value) (n : Nat) (dd : Option Addr) (sl : Array (Option Value)) (x : Int) (u : Tok) (c0 : (decide (x < -(2 ^ 63)) || decide (x ≥ 2 ^ 63)) = false)
    (c1 : (items.isEmpty || x == 1) = true) :
    Meets (Builtin.«tuple.__mul__» ⟨[.ref l, .int x u], []⟩) (fun _ R s => s.heap.get? l = some { cls := .type "tuple", dict := dd, data := .seq items n, slots := sl } ∧
      R (.ok (.ret (Value.ref l))) s) :=
  .of_wp fun prog w A R s h => by
    obtain ⟨hp, g, d, tk, os⟩ := s
    obtain ⟨hl, h⟩ := h
    have f1 := AutoSeq1.idx_int
    wp_walk using wpAny_loadPart' hl
    repeat (first
      | (refine wpAny_ite_false (decide_eq_false (by rw [c0]; exact Bool.false_ne_true)) ?_ <;> wp_walk using wpAny_loadPart' hl)
      | (refine wpAny_ite_true (decide_eq_true (by rw [c1])) ?_ <;> wp_walk using wpAny_loadPart' hl))
    exact ⟨_, rfl, h⟩
def rMulT (K : PySem.W.Frag) : R2 := fun x y H Q => ∃ l k xs, x = .ref l ∧ y = .int k ∧ SqT K H l xs ∧ xs ≠ [] ∧ -1000 ≤ k ∧ ((k ≤ 0 ∧ ∀ p, H p = none → Q (.ref p) (upd H p (.tup []))) ∨ (k = 1 ∧ Q (.ref l) H))
theorem op_mulT {X : Cx} : OpR X (binaryOp .Mult) (rMulT X.K) := by
  intro pins s σ H x y v u Q I rx ry ⟨l, k, xs, ex, ey, hT, hne, h0, h⟩
  subst ex ey
  cases rx
  obtain ⟨t, rfl⟩ := ry
  obtain ⟨its, r, ⟨⟨cls, dd, data, sl⟩, ho, hc, n, hd⟩, hs⟩ := I.tuple hT
  simp only at hc hd
  subst hc hd
  have hle := r.length
  have hi : its.toArray.isEmpty = false := by
    cases its with
    | nil => exact absurd (List.eq_nil_of_length_eq_zero hle) hne
    | cons a b => rfl
  have c0 : (decide (k < -(2 ^ 63)) || decide (k ≥ 2 ^ 63)) = false := by
    rw [decide_eq_false (by omega), decide_eq_false (by omega)] <;> rfl
  refine wpAny_binaryOp_repeat_ref (T := "tuple") (U := "int") (by decide) ⟨_, ho, rfl⟩ (fun s' => typeIs_int s' k t) noFill_tuple_mul F.fills_int_mul F.slot_int_rmul repeat_tuple F.slot_int_index.lookup
    (call_meets F.slot_int_rmul (typeIs_int s k t) F.entry_int_rmul (F.args_int_rmul_2 _ _) (int_rmul_tuple k t l its.toArray n dd sl) ⟨ho, rfl, ⟨_, ho, rfl⟩, ?_⟩)
  rcases h with ⟨hk, q⟩ | ⟨hk, q⟩
  · have c1 : (its.toArray.isEmpty || k == 1) = false := by rw [hi, Bool.false_or] <;> exact beq_eq_false_iff_ne.mpr (by omega)
    have c2 : (decide (k ≤ 0) || its.toArray.isEmpty) = true := by rw [hi, Bool.or_false] <;> exact decide_eq_true hk
    refine call_meets F.slot_tuple_mul ⟨_, ho, rfl⟩ F.entry_tuple_mul (F.args_tuple_mul_2 _ _) (tup_none l its.toArray n dd sl k t c0 c1 c2) ⟨ho, ?_⟩
    refine ⟨.ref s.heap.objs.size, _, I.laid (t' := s.toks) (o := .tup []) (fun b ob q => Heap.get?_push_of_some _ q) (Nat.le_refl _) ?_, rfl, q _ (I.hok.fresh (Nat.le_refl _))⟩
    exact ⟨by show 0 ≤ sizeLine; decide, [], .nil, IsTup.new _ _⟩
  · have c1 : (its.toArray.isEmpty || k == 1) = true := by rw [hi, Bool.false_or, hk] <;> rfl
    refine call_meets F.slot_tuple_mul ⟨_, ho, rfl⟩ F.entry_tuple_mul (F.args_tuple_mul_2 _ _) (tup_once l its.toArray n dd sl k t c0 c1) ⟨ho, ?_⟩
    exact ⟨.ref l, H, I, rfl, q⟩
end Mi
/-! Mi4: more operations on data. -/
namespace Mi
open PySem L2

/-! ### numbers -/
def dMul (m : Bool) (a b : D) (st : Store) : O D := match a, b with
  | .int i, .int j => if (-(2 ^ 64) < i ∧ i < 2 ^ 64) ∨ (-(2 ^ 64) < j ∧ j < 2 ^ 64) ∨ (i.natAbs < 2 ^ 200 ∧ j.natAbs < 2 ^ 200) then .ok (.int (i * j)) st else .no
  | .str x, .int k => if k ≤ 0 ∧ -1000 ≤ k then .ok (.str Str.empty) st else if k = 1 then .ok (.str x) st else .no
  | .tup xs, .int k => if xs.isEmpty = false ∧ xs.length ≤ 1000 ∧ -1000 ≤ k ∧ k ≤ 1000 then (if k ≤ 0 then mkT [] st else if k = 1 then .ok (.tup xs) st else mkT (List.replicate k.toNat xs).flatten st) else .no
  | a, .int k => match lstOf st a with
    | some xs => if -1000 ≤ k ∧ k ≤ 1000 ∧ xs.length * k.toNat ≤ sizeLine then mkL m (List.replicate k.toNat xs).flatten st else .no
    | none => .no
  | _, _ => .no
def dDiv (a b : D) (st : Store) : O D := match a, b with
  | .int i, .int j => if 0 < j ∧ j < 1073741824 then .ok (.int (i / j)) st else .no
  | _, _ => .no
def dMod (a b : D) (st : Store) : O D := match a, b with
  | .int i, .int j => if 0 < j then .ok (.int (i % j)) st else .no
  | _, _ => .no
def dPow (a b : D) (st : Store) : O D := match a, b with
  | .int i, .int j => if 0 ≤ j ∧ j ≤ 1000000 ∧ i.natAbs < 2 ^ 64 then .ok (.int (i ^ j.toNat)) st else .no
  | _, _ => .no
def dAnd (a b : D) (st : Store) : O D := match a, b with
  | .int i, .int j => .ok (.int (Builtin.bitAnd i j)) st
  | _, _ => .no
def dShr (a b : D) (st : Store) : O D := match a, b with
  | .int i, .int j => if 0 ≤ j then .ok (.int (i / 2 ^ j.toNat)) st else .no
  | _, _ => .no
def dNeg (a : D) (st : Store) : O D := match a with
  | .int i => .ok (.int (-i)) st
  | _ => .no
/-! ### order -/
def dLt (a b : D) (st : Store) : O D := match a, b with
  | .int i, .int j => .ok (.bl (decide (i < j))) st
  | .str x, .str y => .ok (.bl (decide (x.cps.toList < y.cps.toList))) st
  | _, _ => .no
def dLe (a b : D) (st : Store) : O D := match a, b with
  | .int i, .int j => .ok (.bl (decide (i ≤ j))) st
  | _, _ => .no
def dGt (a b : D) (st : Store) : O D := match a, b with
  | .int i, .int j => .ok (.bl (decide (j < i))) st
  | .str x, .str y => .ok (.bl (decide (y.cps.toList < x.cps.toList))) st
  | _, _ => .no
def dGe (a b : D) (st : Store) : O D := match a, b with
  | .int i, .int j => .ok (.bl (decide (j ≤ i))) st
  | _, _ => .no
/-! ### is -/
def isNon : D → Bool
  | .non => true
  | _ => false
def dIs (neg : Bool) (a b : D) (st : Store) : O D := match b with
  | .non => .ok (.bl (if neg then !isNon a else isNon a)) st
  | .bl y => match a with
    | .bl x => .ok (.bl (if neg then !decide (x = y) else decide (x = y))) st
    | _ => .no
  | _ => .no
/-! ### in -/
def flatD : D → Bool
  | .non => true
  | .bl _ => true
  | .int _ => true
  | .str _ => true
  | _ => false
def keyD : D → Option Key
  | .int i => some (.inl i)
  | .str s => some (.inr s)
  | _ => none
def valD (kvs : List (Key × D)) (k : Key) : Option D := (kvs.find? fun kv => decide (kv.1 = k)).map (·.2)
def sgn (neg b : Bool) : Bool := if neg = true then !b else b
def dIn (neg : Bool) (a b : D) (st : Store) : O D := match b with
  | .str y => match a with
    | .str x => match x.cps.toList with
      | [c] => .ok (.bl (sgn neg (decide (c ∈ y.cps.toList)))) st
      | _ => .no
    | _ => .no
  | .tup ys => if flatD a = true ∧ ys.all flatD = true then .ok (.bl (sgn neg (ys.any fun y => eqD y a))) st else .no
  | b => match rdOf st b with
    | some kvs => match keyD a with
      | some k => .ok (.bl (sgn neg (valD kvs k).isSome)) st
      | none => .no
    | none => match deep 64 st a, deep 64 st b with
      | some x, some (.lst ys) => .ok (.bl (sgn neg (ys.any fun y => eqD y x))) st
      | _, _ => .no

section
variable {C : Cf} {X : Cx}
theorem snd_div : Snd2 C (fun x y H Q => ∃ r, OpR X (binaryOp .FloorDiv) r ∧ r x y H Q) dDiv := by
  intro μ st H x y a b W σ Q R da db h
  cases da with
  | int i =>
    cases db with
    | int j =>
      have h' : Post C Dat W σ Q st.length μ H (if 0 < j ∧ j < 1073741824 then .ok (.int (i / j)) st else .no) := h
      split at h'
      · rename_i hc
        exact ⟨_, op_fdiv, i, j, rfl, rfl, hc, Post.now R h' (.int _)⟩
      · exact False.elim h'
    | _ => exact False.elim h
  | _ => exact False.elim h
theorem snd_mod : Snd2 C (fun x y H Q => ∃ r, OpR X (binaryOp .Mod) r ∧ r x y H Q) dMod := by
  intro μ st H x y a b W σ Q R da db h
  cases da with
  | int i =>
    cases db with
    | int j =>
      have h' : Post C Dat W σ Q st.length μ H (if 0 < j then .ok (.int (i % j)) st else .no) := h
      split at h'
      · rename_i hc
        exact ⟨_, op_mod, i, j, rfl, rfl, hc, Post.now R h' (.int _)⟩
      · exact False.elim h'
    | _ => exact False.elim h
  | _ => exact False.elim h
theorem snd_pow : Snd2 C (fun x y H Q => ∃ r, OpR X (binaryOp .Pow) r ∧ r x y H Q) dPow := by
  intro μ st H x y a b W σ Q R da db h
  cases da with
  | int i =>
    cases db with
    | int j =>
      have h' : Post C Dat W σ Q st.length μ H (if 0 ≤ j ∧ j ≤ 1000000 ∧ i.natAbs < 2 ^ 64 then .ok (.int (i ^ j.toNat)) st else .no) := h
      split at h'
      · rename_i hc
        exact ⟨_, op_pow, i, j, rfl, rfl, hc, Post.now R h' (.int _)⟩
      · exact False.elim h'
    | _ => exact False.elim h
  | _ => exact False.elim h
theorem snd_and : Snd2 C (fun x y H Q => ∃ r, OpR X (binaryOp .BitAnd) r ∧ r x y H Q) dAnd := by
  intro μ st H x y a b W σ Q R da db h
  cases da with
  | int i =>
    cases db with
    | int j => exact ⟨_, op_and, i, j, rfl, rfl, Post.now R h (.int _)⟩
    | _ => exact False.elim h
  | _ => exact False.elim h
theorem snd_shr : Snd2 C (fun x y H Q => ∃ r, OpR X (binaryOp .RShift) r ∧ r x y H Q) dShr := by
  intro μ st H x y a b W σ Q R da db h
  cases da with
  | int i =>
    cases db with
    | int j =>
      have h' : Post C Dat W σ Q st.length μ H (if 0 ≤ j then .ok (.int (i / 2 ^ j.toNat)) st else .no) := h
      split at h'
      · rename_i hc
        exact ⟨_, op_shr, i, j, rfl, rfl, hc, Post.now R h' (.int _)⟩
      · exact False.elim h'
    | _ => exact False.elim h
  | _ => exact False.elim h
theorem snd_neg : Snd1 C (fun x H Q => ∃ r, UnR X (unaryOp .USub) r ∧ r x H Q) dNeg := by
  intro μ st H x a W σ Q R da h
  cases da with
  | int i => exact ⟨_, un_neg, i, rfl, Post.now R h (.int _)⟩
  | _ => exact False.elim h
/-- a text times 0 or 1 -/
def rMulS : R2 := fun x y H Q => ∃ z k, x = .str z ∧ y = .int k ∧ ((k ≤ 0 ∧ -1000 ≤ k ∧ Q (.str Str.empty) H) ∨ (k = 1 ∧ Q (.str z) H))
theorem op_mulS : OpR X (binaryOp .Mult) rMulS := by
  intro pins s σ H x y v u Q I rx ry h
  obtain ⟨z, k, rfl, rfl, h⟩ := h
  obtain ⟨t, rfl⟩ := rx
  obtain ⟨t', rfl⟩ := ry
  rcases h with ⟨h0, h1, q⟩ | ⟨rfl, q⟩
  · exact PySem.P.mul_str_none (by omega) (by omega) ⟨.str Str.empty, H, I.tok _, ⟨_, rfl⟩, q⟩
  · refine PySem.P.mul_str (by decide) (fun _ z => by cases z) (fun _ z => by cases z) ?_
    rw [if_neg (by decide), if_pos (by simp)]
    exact ⟨.str z, H, I, ⟨_, rfl⟩, q⟩
theorem mem_rep_flat {α : Type} {x : α} {xs : List α} : ∀ {k : Nat}, x ∈ (List.replicate k xs).flatten → x ∈ xs
  | 0, h => by simp at h
  | k + 1, h => by
    rw [List.replicate_succ, List.flatten_cons, List.mem_append] at h
    exact h.elim id mem_rep_flat
theorem DatL.rep {K : PySem.W.Frag} {n : Nat} {μ : Mu} {H : Hp} {vs : List V} {xs : List D} (h : DatL K n μ H vs xs) : ∀ k : Nat, DatL K n μ H (List.replicate k vs).flatten (List.replicate k xs).flatten
  | 0 => .nil
  | k + 1 => by
    rw [List.replicate_succ, List.replicate_succ, List.flatten_cons, List.flatten_cons]
    exact h.append (DatL.rep h k)
theorem snd_mul (hK : X.K = C.K) (m : Bool) : Snd2 C (fun x y H Q => ∃ r, OpR X (binaryOp .Mult) r ∧ r x y H Q) (dMul m) := by
  intro μ st H x y a b W σ Q R da db h
  cases db with
  | int k =>
    have rest : Post C Dat W σ Q st.length μ H (match lstOf st a with
        | some xs => if -1000 ≤ k ∧ k ≤ 1000 ∧ xs.length * k.toNat ≤ sizeLine then mkL m (List.replicate k.toNat xs).flatten st else .no
        | none => .no) → ∃ r, OpR X (binaryOp .Mult) r ∧ r x (.int k) H Q := fun h => by
      cases ea : lstOf st a with
      | none => rw [ea] at h; exact False.elim h
      | some xs =>
        rw [ea] at h
        dsimp only at h
        split at h
        · rename_i hc
          obtain ⟨p, vs, rfl, hp, hv, _⟩ := lstOf_ok R da ea
          exact ⟨_, op_rep, p, k, vs, rfl, rfl, hp, by omega, by omega, by rw [hv.length]; exact hc.2.2, fun z hz => newL R h (hv.rep _) hz⟩
        · exact False.elim h
    cases da with
    | int i =>
      have h' : Post C Dat W σ Q st.length μ H (if (-(2 ^ 64) < i ∧ i < 2 ^ 64) ∨ (-(2 ^ 64) < k ∧ k < 2 ^ 64) ∨ (i.natAbs < 2 ^ 200 ∧ k.natAbs < 2 ^ 200) then .ok (.int (i * k)) st else .no) := h
      split at h'
      · rename_i hc
        rcases hc with hc | hc | hc
        · exact ⟨_, op_mul, i, k, rfl, rfl, .inl hc, Post.now R h' (.int _)⟩
        · exact ⟨_, op_mul, i, k, rfl, rfl, .inr hc, Post.now R h' (.int _)⟩
        · exact ⟨_, op_mulW, i, k, rfl, rfl, wide_mul hc.1 hc.2 (by decide) (by decide) (by decide), Post.now R h' (.int _)⟩
      · exact False.elim h'
    | @str z hl ok =>
      have h' : Post C Dat W σ Q st.length μ H (if k ≤ 0 ∧ -1000 ≤ k then .ok (.str Str.empty) st else if k = 1 then .ok (.str z) st else .no) := h
      split at h'
      · rename_i hc
        exact ⟨_, op_mulS, z, k, rfl, rfl, .inl ⟨hc.1, hc.2, Post.now R h' (.str (Nat.zero_le _) (by decide +kernel))⟩⟩
      · split at h'
        · rename_i hc
          exact ⟨_, op_mulS, z, k, rfl, rfl, .inr ⟨hc, Post.now R h' (.str hl ok)⟩⟩
        · exact False.elim h'
    | @tup p vs xs hT hl hs =>
      have h' : Post C Dat W σ Q st.length μ H (if xs.isEmpty = false ∧ xs.length ≤ 1000 ∧ -1000 ≤ k ∧ k ≤ 1000 then (if k ≤ 0 then mkT [] st else if k = 1 then .ok (.tup xs) st else mkT (List.replicate k.toNat xs).flatten st) else .no) := h
      split at h'
      · rename_i hc
        have hne : vs ≠ [] := fun z => by
          have h1 := hs.length
          rw [z] at h1
          have h2 : xs = [] := List.length_eq_zero_iff.mp h1.symm
          rw [h2] at hc
          exact absurd hc.1 (by decide)
        split at h'
        · rename_i hk
          exact ⟨_, op_mulT, p, k, vs, rfl, rfl, by rw [hK]; exact hT, hne, hc.2.2.1, .inl ⟨hk, fun z hz => newT R h' .nil hz⟩⟩
        · split at h'
          · rename_i hk
            exact ⟨_, op_mulT, p, k, vs, rfl, rfl, by rw [hK]; exact hT, hne, hc.2.2.1, .inr ⟨hk, Post.now R h' (.tup hT hl hs)⟩⟩
          · exact ⟨_, op_repT, p, k, vs, rfl, rfl, by rw [hK]; exact hT, hne, by omega, hc.2.2.2, by rw [hs.length]; exact hc.2.1, fun z hz => newT R h' (hs.rep _) hz⟩
      · exact False.elim h'
    | _ => exact rest h
  | _ => cases da <;> exact False.elim h
theorem snd_lt : Snd2 C (fun x y H Q => ∃ r, OpR X (compareOp .Lt) r ∧ r x y H Q) dLt := by
  intro μ st H x y a b W σ Q R da db h
  cases da with
  | int i =>
    cases db with
    | int j => exact ⟨_, op_lt, i, j, rfl, rfl, Post.now R h (.bl _)⟩
    | _ => exact False.elim h
  | str hl ok =>
    cases db with
    | str hl' ok' => exact ⟨_, op_lt_str, _, _, rfl, rfl, Post.now R h (.bl _)⟩
    | _ => exact False.elim h
  | _ => exact False.elim h
theorem snd_gt : Snd2 C (fun x y H Q => ∃ r, OpR X (compareOp .Gt) r ∧ r x y H Q) dGt := by
  intro μ st H x y a b W σ Q R da db h
  cases da with
  | int i =>
    cases db with
    | int j => exact ⟨_, op_gt, i, j, rfl, rfl, Post.now R h (.bl _)⟩
    | _ => exact False.elim h
  | str hl ok =>
    cases db with
    | str hl' ok' => exact ⟨_, op_gt_str, _, _, rfl, rfl, Post.now R h (.bl _)⟩
    | _ => exact False.elim h
  | _ => exact False.elim h
theorem snd_le : Snd2 C (fun x y H Q => ∃ r, OpR X (compareOp .LtE) r ∧ r x y H Q) dLe := by
  intro μ st H x y a b W σ Q R da db h
  cases da with
  | int i =>
    cases db with
    | int j => exact ⟨_, op_le, i, j, rfl, rfl, Post.now R h (.bl _)⟩
    | _ => exact False.elim h
  | _ => exact False.elim h
theorem snd_ge : Snd2 C (fun x y H Q => ∃ r, OpR X (compareOp .GtE) r ∧ r x y H Q) dGe := by
  intro μ st H x y a b W σ Q R da db h
  cases da with
  | int i =>
    cases db with
    | int j => exact ⟨_, op_ge, i, j, rfl, rfl, Post.now R h (.bl _)⟩
    | _ => exact False.elim h
  | _ => exact False.elim h
theorem isNon_of {K : PySem.W.Frag} {n : Nat} {μ : Mu} {H : Hp} {v : V} {d : D} (h : Dat K n μ H v d) : decide (v = V.non) = isNon d := by
  cases h <;> simp [isNon]
theorem snd_is : Snd2 C (fun x y H Q => ∃ r, OpR X (compareOp .Is) r ∧ r x y H Q) (dIs false) := by
  intro μ st H x y a b W σ Q R da db h
  cases db with
  | non => exact ⟨_, op_isN, rfl, by rw [isNon_of da]; exact Post.now R h (.bl _)⟩
  | bl y =>
    cases da with
    | bl x => exact ⟨_, op_isBl, x, y, rfl, rfl, Post.now R h (.bl _)⟩
    | _ => exact False.elim h
  | _ => exact False.elim h
theorem snd_isnot : Snd2 C (fun x y H Q => ∃ r, OpR X (compareOp .IsNot) r ∧ r x y H Q) (dIs true) := by
  intro μ st H x y a b W σ Q R da db h
  cases db with
  | non => exact ⟨_, op_notN, rfl, by rw [isNon_of da]; exact Post.now R h (.bl _)⟩
  | bl y =>
    cases da with
    | bl x => exact ⟨_, op_notBl, x, y, rfl, rfl, Post.now R h (.bl _)⟩
    | _ => exact False.elim h
  | _ => exact False.elim h
end
end Mi
/-! Mi5: in, subscripts, slices, truth. -/
namespace Mi
open PySem L2

section
variable {C : Cf} {X : Cx} {μ : Mu} {st : Store} {H : Hp}
theorem flat_of {K : PySem.W.Frag} {n : Nat} {v : V} {d : D} (h : Dat K n μ H v d) (f : flatD d = true) : flatV v = true := by
  cases h <;> first | rfl | cases f
theorem flats_of {K : PySem.W.Frag} {n : Nat} : ∀ {vs : List V} {ds : List D}, DatL K n μ H vs ds → ds.all flatD = true → vs.all flatV = true
  | _, _, .nil, _ => rfl
  | _, _, .cons h t, f => by
    rw [List.all_cons, Bool.and_eq_true] at f ⊢
    exact ⟨flat_of h f.1, flats_of t f.2⟩
theorem eq_of_flat {K : PySem.W.Frag} {n : Nat} {v w : V} {d e : D} (h : Dat K n μ H v d) (h' : Dat K n μ H w e) (f : flatD d = true) (f' : flatD e = true) : eqV v w = eqD d e := by
  cases h <;> first | exact absurd f Bool.false_ne_true | (cases h' <;> first | exact absurd f' Bool.false_ne_true | rfl | simp [eqV, eqD, toPy, PyData.eqv])
theorem any_of_flat {K : PySem.W.Frag} {n : Nat} {w : V} {e : D} (h' : Dat K n μ H w e) (f' : flatD e = true) : ∀ {vs : List V} {ds : List D}, DatL K n μ H vs ds → ds.all flatD = true → inV w vs = ds.any fun y => eqD y e
  | _, _, .nil, _ => rfl
  | _, _, .cons h t, f => by
    rw [List.all_cons, Bool.and_eq_true] at f
    have := any_of_flat h' f' t f.2
    unfold inV at this ⊢
    rw [List.any_cons, List.any_cons, this, eq_of_flat h h' f.1 f']
theorem key_of {K : PySem.W.Frag} {n : Nat} {v : V} {d : D} {k : Key} (h : Dat K n μ H v d) (e : keyD d = some k) : v = kV k := by
  cases h <;> cases e <;> rfl
theorem key_ok {K : PySem.W.Frag} {n : Nat} {v : V} {d : D} {k : Key} (h : Dat K n μ H v d) (e : keyD d = some k) : KeyOk k := by
  cases h with
  | int i => cases e; trivial
  | str hl ok => cases e; exact ⟨hl, ok⟩
  | _ => cases e
theorem val_of {K : PySem.W.Frag} {n : Nat} (k : Key) : ∀ {vs : List (Key × V)} {ds : List (Key × D)}, DatK K n μ H vs ds → (valV vs k = none ∧ valD ds k = none) ∨ ∃ v d, valV vs k = some v ∧ valD ds k = some d ∧ Dat K n μ H v d
  | _, _, .nil => .inl ⟨rfl, rfl⟩
  | _, _, .cons (k := k') (v := v) (d := d) _ h t => by
    by_cases e : k' = k
    · subst e
      exact .inr ⟨v, d, by simp [valV], by simp [valD], h⟩
    · rcases val_of k t with ⟨h1, h2⟩ | ⟨v, d, h1, h2, h3⟩
      · refine .inl ⟨?_, ?_⟩
        · unfold valV at h1 ⊢
          rw [List.find?_cons_of_neg (by simpa using e)]; exact h1
        · unfold valD at h2 ⊢
          rw [List.find?_cons_of_neg (by simpa using e)]; exact h2
      · refine .inr ⟨v, d, ?_, ?_, h3⟩
        · unfold valV at h1 ⊢
          rw [List.find?_cons_of_neg (by simpa using e)]; exact h1
        · unfold valD at h2 ⊢
          rw [List.find?_cons_of_neg (by simpa using e)]; exact h2
theorem val_isSome {K : PySem.W.Frag} {n : Nat} {vs : List (Key × V)} {ds : List (Key × D)} (k : Key) (h : DatK K n μ H vs ds) : (valV vs k).isSome = (valD ds k).isSome := by
  rcases val_of k h with ⟨h1, h2⟩ | ⟨v, d, h1, h2, _⟩ <;> rw [h1, h2] <;> rfl
theorem op_inDct (hu : X.A.units + 1 < cLine) : OpR X (compareOp .In) (fun x y H Q => ∃ a o, y = .ref a ∧ DGet H a x o ∧ Q (.bl o.isSome) H) := by
  intro pins s σ H x y v u Q I rx ry h
  obtain ⟨a, o, rfl, g, q⟩ := h
  obtain rfl : u = Value.ref a := ry
  exact d_in hu I g rx fun s3 I3 => ⟨.bl o.isSome, H, I3, rfl, q⟩
theorem op_notInDct (hu : X.A.units + 1 < cLine) : OpR X (compareOp .NotIn) (fun x y H Q => ∃ a o, y = .ref a ∧ DGet H a x o ∧ Q (.bl (!o.isSome)) H) := by
  intro pins s σ H x y v u Q I rx ry h
  obtain ⟨a, o, rfl, g, q⟩ := h
  obtain rfl : u = Value.ref a := ry
  exact d_notIn hu I g rx fun s3 I3 => ⟨.bl (!o.isSome), H, I3, rfl, q⟩
theorem str_one {x : Str} {c : Nat} (h : x.cps.toList = [c]) : x = ⟨#[c]⟩ := by
  cases x with
  | mk cps =>
    congr
    exact Array.toList_inj.mp h
def inOp : Bool → CmpOp
  | true => .NotIn
  | false => .In
theorem snd_in (hK : X.K = C.K) (hu : X.A.units + 65 < cLine) (neg : Bool) : Snd2 C (fun x y H Q => ∃ r, OpR X (compareOp (inOp neg)) r ∧ r x y H Q) (dIn neg) := by
  intro μ st H x y a b W σ Q R da db h
  have rest : Post C Dat W σ Q st.length μ H (match rdOf st b with
    | some kvs => match keyD a with
      | some k => .ok (.bl (sgn neg (valD kvs k).isSome)) st
      | none => .no
    | none => match deep 64 st a, deep 64 st b with
      | some x, some (.lst ys) => .ok (.bl (sgn neg (ys.any fun y => eqD y x))) st
      | _, _ => .no) → ∃ r, OpR X (compareOp (inOp neg)) r ∧ r x y H Q := fun h => by
    cases e : rdOf st b with
    | some kvs =>
      rw [e] at h
      cases ek : keyD a with
      | none => rw [ek] at h; exact False.elim h
      | some k =>
        rw [ek] at h
        obtain ⟨p, vs, rfl, hp, hv, _⟩ := rdOf_ok R db e
        have hx := key_of da ek
        subst hx
        have g : DGet H p (kV k) (valV vs k) := .inl ⟨vs, k, hp, rfl, rfl⟩
        have q := Post.now R h (.bl _)
        rw [← val_isSome k hv] at q
        cases neg with
        | false => exact ⟨_, op_inDct (by omega), p, _, rfl, g, q⟩
        | true => exact ⟨_, op_notInDct (by omega), p, _, rfl, g, q⟩
    | none =>
      rw [e] at h
      cases ea : deep 64 st a with
      | none => rw [ea] at h; exact False.elim h
      | some a' =>
        cases eb : deep 64 st b with
        | none => rw [ea, eb] at h; exact False.elim h
        | some b' =>
          rw [ea, eb] at h
          have fa := deep_ok R 64 x a a' da ea
          have fb := deep_ok R 64 y b b' db eb
          cases b' with
          | lst ys =>
            have q := Post.now R h (.bl _)
            have ey : (toPys ys).any (fun z => PyData.eqv z (toPy a')) = ys.any fun y => eqD y a' := by
              rw [toPys_map, List.any_map]; rfl
            cases neg with
            | false => exact ⟨_, op_inD hu, toPy a', toPys ys, by rw [hK]; exact fa.1, by rw [hK]; exact fb.1, fa.shaped, fb.shaped, by rw [ey]; exact q⟩
            | true => exact ⟨_, op_notInD hu, toPy a', toPys ys, by rw [hK]; exact fa.1, by rw [hK]; exact fb.1, fa.shaped, fb.shaped, by rw [ey]; exact q⟩
          | _ => exact False.elim h
  cases db with
  | @str y hl ok =>
    cases da with
    | @str x hl' ok' =>
      have h' : Post C Dat W σ Q st.length μ H (match x.cps.toList with
        | [c] => .ok (.bl (sgn neg (decide (c ∈ y.cps.toList)))) st
        | _ => .no) := h
      split at h'
      · rename_i c e
        have ex := str_one e
        have q := Post.now R h' (.bl _)
        cases neg with
        | false => exact ⟨_, op_in_sign, c, y, by rw [ex], rfl, q⟩
        | true => exact ⟨_, op_notIn_sign, c, y, by rw [ex], rfl, q⟩
      · exact False.elim h'
    | _ => exact False.elim h
  | @tup p vs ys hT hl hs =>
    have h' : Post C Dat W σ Q st.length μ H (if flatD a = true ∧ ys.all flatD = true then .ok (.bl (sgn neg (ys.any fun y => eqD y a))) st else .no) := h
    split at h'
    · rename_i hc
      have q := Post.now R h' (.bl _)
      rw [← any_of_flat da hc.1 hs hc.2] at q
      cases neg with
      | false => exact ⟨_, op_in_seq, p, vs, rfl, .inr (by rw [hK]; exact hT), flat_of da hc.1, flats_of hs hc.2, q⟩
      | true => exact ⟨_, op_notIn_seq, p, vs, rfl, .inr (by rw [hK]; exact hT), flat_of da hc.1, flats_of hs hc.2, q⟩
    · exact False.elim h'
  | _ => exact rest h

/-! ### subscripts -/
theorem ix_dct (hu : X.A.units + 1 < cLine) : IxR X (fun x y H Q => ∃ a v, x = .ref a ∧ DGet H a y (some v) ∧ Q v H) := by
  intro value slice pins s σ H x y v u Q I rx ry h hs
  obtain ⟨a, w, rfl, g, q⟩ := h
  obtain rfl : v = Value.ref a := rx
  exact PyProof.Rows.tail_any (dict_typeIs I g) PySem.F.slot_dict_getitem.lookup (d_getItem hu I g ry fun w' s3 I3 rw' => ⟨w, H, I3, rw', q⟩) hs
end
def dIx (a b : D) (st : Store) : O D := match rdOf st a with
  | some kvs => match keyD b with
    | some k => match valD kvs k with
      | some d => .ok d st
      | none => .no
    | none => .no
  | none => match b with
    | .int i => match a with
      | .str s => match atI s.cps.toList i with
        | some c => .ok (.str ⟨#[c]⟩) st
        | none => .no
      | a => match seqOf st a with
        | some xs => match atI xs i with
          | some d => .ok d st
          | none => .no
        | none => .no
    | _ => .no
section
variable {C : Cf} {X : Cx} {μ : Mu} {st : Store} {H : Hp}
theorem atI_map {α β : Type} {xs : List α} {ys : List β} (hl : xs.length = ys.length) {i : Int} {y : β} (h : atI ys i = some y) : ∃ j : Nat, ys[j]? = some y ∧ ∀ x, xs[j]? = some x → atI xs i = some x := by
  unfold atI at h ⊢
  rw [hl]
  cases e : ixN ys.length i with
  | none => rw [e] at h; cases h
  | some j =>
    rw [e] at h
    exact ⟨j, h, fun x hx => hx⟩
theorem mem_atI {α : Type} {xs : List α} {i : Int} {x : α} (h : atI xs i = some x) : x ∈ xs := by
  unfold atI at h
  cases e : ixN xs.length i with
  | none => rw [e] at h; cases h
  | some j => rw [e] at h; exact List.mem_of_getElem? h
theorem strOk_mem {s : Str} (h : PyData.strOk s = true) {c : Nat} (hc : c ∈ s.cps.toList) : c < 0x110000 := by
  unfold PyData.strOk at h
  rw [← Array.all_toList, List.all_eq_true] at h
  simpa using h c hc
theorem strOk_list {l : List Nat} (h : ∀ c ∈ l, c < 0x110000) : PyData.strOk ⟨l.toArray⟩ = true := by
  unfold PyData.strOk
  rw [← Array.all_toList, List.all_eq_true]
  simpa using h
theorem snd_ix (hK : X.K = C.K) (hu : X.A.units + 65 < cLine) : Snd2 C (fun x y H Q => ∃ r, IxR X r ∧ r x y H Q) dIx := by
  intro μ st H x y a b W σ Q R da db h
  unfold dIx at h
  cases e : rdOf st a with
  | some kvs =>
    rw [e] at h
    cases ek : keyD b with
    | none => rw [ek] at h; exact False.elim h
    | some k =>
      rw [ek] at h
      obtain ⟨p, vs, rfl, hp, hv, _⟩ := rdOf_ok R da e
      have hy := key_of db ek
      subst hy
      dsimp only at h
      rcases val_of k hv with ⟨h1, h2⟩ | ⟨v, d, h1, h2, h3⟩
      · rw [h2] at h; exact False.elim h
      · rw [h2] at h
        exact ⟨_, ix_dct (by omega), p, v, rfl, .inl ⟨vs, k, hp, rfl, h1.symm⟩, Post.now R h h3⟩
  | none =>
    rw [e] at h
    cases db with
    | int i =>
      have rest : Post C Dat W σ Q st.length μ H (match seqOf st a with
        | some xs => match atI xs i with
          | some d => .ok d st
          | none => .no
        | none => .no) → ∃ r, IxR X r ∧ r x (.int i) H Q := fun h => by
        cases es : seqOf st a with
        | none => rw [es] at h; exact False.elim h
        | some xs =>
          rw [es] at h
          cases ei : atI xs i with
          | none => simp only [ei] at h; exact False.elim h
          | some d =>
            simp only [ei] at h
            obtain ⟨p, vs, rfl, hp, hv, _⟩ := seqOf_ok R da es
            obtain ⟨j, hj, hx⟩ := atI_map hv.length ei
            obtain ⟨v, hvj, hvd⟩ := hv.get hj
            rcases hp with hp | hp
            · exact ⟨_, ix_list, p, vs, i, v, rfl, rfl, by rw [hK]; exact hp, hx v hvj, Post.now R h hvd⟩
            · exact ⟨_, ix_tup, p, vs, i, v, rfl, rfl, by rw [hK]; exact hp, hx v hvj, Post.now R h hvd⟩
      cases da with
      | @str z hl ok =>
        have h' : Post C Dat W σ Q st.length μ H (match atI z.cps.toList i with
          | some c => .ok (.str ⟨#[c]⟩) st
          | none => .no) := h
        cases ei : atI z.cps.toList i with
        | none => rw [ei] at h'; exact False.elim h'
        | some c =>
          rw [ei] at h'
          exact ⟨_, ix_str, z, i, c, rfl, rfl, hl, ei, Post.now R h' (.str (by show 1 ≤ _; decide) (strOk_list (l := [c]) (by simpa using strOk_mem ok (mem_atI ei))))⟩
      | _ => exact rest h
    | _ => exact False.elim h

/-! ### slices -/
def mPart (a : M D) : M (Option Int) := fun ρ st => (a ρ st).bind fun d st1 => match d with
  | .int i => .ok (some i) st1
  | _ => .no
def mNoPart : M (Option Int) := fun _ st => .ok none st
def cutD (xs : List D) (lo hi : Option Int) : List D := (xs.drop (HT.sIx xs.length 0 lo)).take (HT.sIx xs.length xs.length hi - HT.sIx xs.length 0 lo)
def dSl (m : Bool) (a : D) (lo hi : Option Int) (st : Store) : O D := match a with
  | .str s => .ok (.str (cutS s lo hi)) st
  | .tup xs => .ok (.tup (cutD xs lo hi)) st
  | a => match seqOf st a with
    | some xs => mkL m (cutD xs lo hi) st
    | none => .no
def mSl (m : Bool) (a : M D) (lo hi : M (Option Int)) : M D := fun ρ st => (a ρ st).bind fun x st1 => (lo ρ st1).bind fun l st2 => (hi ρ st2).bind fun h st3 => dSl m x l h st3
theorem po_noneD {W : WX} : PO X none (TDO C W mNoPart) := po_none.imp fun σ H Q ⟨μ, ρ, st, R, E, h⟩ => h none μ H Ext.refl R rfl
theorem po_someD {W : WX} {e : Expr} {m : M D} (h : PE X e (TD C W m)) : PO X (some e) (TDO C W (mPart m)) := (po_some h).imp fun σ H Q ⟨μ, ρ, st, R, E, h⟩ => by
  refine ⟨μ, ρ, st, R, E, (Post.bind (R := Dat) h).imp fun v H1 ⟨a, st1, μ1, _, e1, R1, d1, h1⟩ => ?_⟩
  cases d1 with
  | int i => exact ⟨i, rfl, h1 (some i) μ1 H1 Ext.refl R1 rfl⟩
  | _ => exact False.elim h1
theorem DatL.cut {K : PySem.W.Frag} {n : Nat} {vs : List V} {ds : List D} (h : DatL K n μ H vs ds) (lo hi : Option Int) : DatL K n μ H (cutV vs lo hi) (cutD ds lo hi) := by
  unfold cutV cutD
  rw [h.length]
  exact (h.drop _).take _
theorem cutS_ok {s : Str} (h : PyData.strOk s = true) (lo hi : Option Int) : PyData.strOk (cutS s lo hi) = true :=
  strOk_list fun c hc => strOk_mem h (List.mem_of_mem_drop (List.mem_of_mem_take hc))
theorem snd_sl (hK : X.K = C.K) (m : Bool) {W : WX} {σ : L2.St} {Q : VK} {x : V} {a : D} {lo hi : Option Int} (R : C.Rel μ st H) (da : Dat C.K st.length μ H x a) (h : Post C Dat W σ Q st.length μ H (dSl m a lo hi st)) : ∃ r, SlR X r ∧ r x lo hi H Q := by
  have rest : Post C Dat W σ Q st.length μ H (match seqOf st a with
      | some xs => mkL m (cutD xs lo hi) st
      | none => .no) → (∀ xs, a ≠ .tup xs) → ∃ r, SlR X r ∧ r x lo hi H Q := fun hh hn => by
    cases es : seqOf st a with
    | none => rw [es] at hh; exact False.elim hh
    | some xs =>
      rw [es] at hh
      dsimp only at hh
      clear h
      have da' := da
      cases da with
      | tup h' hl hs => exact absurd rfl (hn _)
      | frz h' hl hs => cases es; exact ⟨_, sl_list, _, _, rfl, by rw [hK]; exact h'.sq, fun z hz => newL R hh (hs.cut lo hi) hz⟩
      | lst h' nl hl hs => cases es; exact ⟨_, sl_list, _, _, rfl, .of h', fun z hz => newL R hh (hs.cut lo hi) hz⟩
      | ref hi' =>
        obtain ⟨p, vs, e1, hp, hv, _⟩ := lstOf_ok R da' (show lstOf st (.ref _) = some xs from es)
        exact ⟨_, sl_list, p, vs, e1, .of hp, fun z hz => newL R hh (hv.cut lo hi) hz⟩
      | _ => cases es
  cases da with
  | str hl ok => exact ⟨_, sl_str, _, rfl, hl, Post.now R h (.str (Nat.le_trans (cutS_length _ lo hi) hl) (cutS_ok ok lo hi))⟩
  | @tup p vs ys hT hl hs =>
    have hl' : (cutD ys lo hi).length ≤ sizeLine := by
      unfold cutD
      rw [List.length_take, List.length_drop]; omega
    have h' : Post C Dat W σ Q st.length μ H (mkT (cutD ys lo hi) st) := by
      unfold mkT
      rw [if_pos hl']; exact h
    refine ⟨_, sl_tupA, p, vs, rfl, by rw [hK]; exact hT, ?_⟩
    unfold mkT at h'
    rw [if_pos hl'] at h'
    refine ⟨fun e => ?_, fun _ z hz => newT R (by unfold mkT; rw [if_pos hl']; exact h') (hs.cut lo hi) hz⟩
    have : cutD ys lo hi = ys := by
      unfold cutD
      rw [← hs.length, e.1, e.2, List.drop_zero, Nat.sub_zero, hs.length]
      exact List.take_length
    refine Post.now R h' ?_
    rw [this]
    exact .tup hT hl hs
  | _ => exact rest h (fun _ z => by cases z)
end
end Mi
/-! Mi6: truth, built-in calls and methods. -/
namespace Mi
open PySem L2

/-! ### truth -/
def dTru (d : D) (st : Store) : Option Bool := match d with
  | .non => some false
  | .bl b => some b
  | .int i => some (i != 0)
  | .str s => some ((s.length : Int) != 0)
  | d => match dctOf st d with
    | some kvs => some (!kvs.isEmpty)
    | none => match seqOf st d with
      | some xs => some (!xs.isEmpty)
      | none => none
def mTru (a : M D) : M Bool := fun ρ st => (a ρ st).bind fun d st1 => match dTru d st1 with
  | some b => .ok b st1
  | none => .no
section
variable {C : Cf} {X : Cx} {μ : Mu} {st : Store} {H : Hp} {W : WX}
theorem isEmpty_len {α β : Type} {xs : List α} {ys : List β} (h : xs.length = ys.length) : xs.isEmpty = ys.isEmpty := by
  cases xs <;> cases ys <;> first | rfl | cases h
theorem tru_of (R : C.Rel μ st H) {v : V} {d : D} {b : Bool} (h : Dat C.K st.length μ H v d) (e : dTru d st = some b) : TruV C.K v H b := by
  have rest : (match dctOf st d with
    | some kvs => some (!kvs.isEmpty)
    | none => match seqOf st d with
      | some xs => some (!xs.isEmpty)
      | none => none) = some b → TruV C.K v H b := fun e => by
    cases q : dctOf st d with
    | some kvs =>
      rw [q] at e
      cases e
      obtain ⟨a, vs, rfl, ha, hv, _⟩ := dctOf_ok R h q
      exact .inr (.inr ⟨vs, ha, by rw [isEmpty_len hv.length]⟩)
    | none =>
      rw [q] at e
      cases q2 : seqOf st d with
      | none => rw [q2] at e; cases e
      | some xs =>
        rw [q2] at e
        cases e
        obtain ⟨a, vs, rfl, ha, hv, _⟩ := seqOf_ok R h q2
        rcases ha with ha | ha
        · exact .inl ⟨vs, ha, by rw [isEmpty_len hv.length]⟩
        · exact .inr (.inl ⟨vs, ha, by rw [isEmpty_len hv.length]⟩)
  cases h with
  | non => cases e; rfl
  | bl x => cases e; rfl
  | int i => cases e; rfl
  | str hl ok => cases e; exact ⟨hl, rfl⟩
  | _ => exact rest e
theorem pt_truD {a : Expr} {m : M D} (hK : X.K = C.K) (ha : PE X a (TD C W m)) (he : ∀ whole, isTrue a X.env whole = (do let v ← whole; standAt a.pos; holding [v] (truthy v))) : PT X a (TDT C W (mTru m)) :=
  (pt_truth ha he).imp fun σ H Q ⟨μ, ρ, st, R, E, h⟩ => by
    refine ⟨μ, ρ, st, R, E, (Post.bind (R := Dat) h).imp fun v H1 ⟨a, st1, μ1, _, e1, R1, d1, h1⟩ => ?_⟩
    cases q : dTru a st1 with
    | none => simp only [q] at h1; exact False.elim h1
    | some b =>
      simp only [q] at h1
      exact ⟨b, by rw [hK]; exact tru_of R1 d1 q, h1 b μ1 H1 Ext.refl R1 rfl⟩
/-! ### and, or, not -/
def mAndT (a b : M Bool) : M Bool := fun ρ st => (a ρ st).bind fun x st1 => if x = true then b ρ st1 else .ok false st1
def mOrT (a b : M Bool) : M Bool := fun ρ st => (a ρ st).bind fun x st1 => if x = true then .ok true st1 else b ρ st1
def mNotT (a : M Bool) : M Bool := fun ρ st => (a ρ st).bind fun x st1 => .ok (!x) st1
def mIfE (c : M Bool) (a b : M D) : M D := fun ρ st => (c ρ st).bind fun x st1 => if x = true then a ρ st1 else b ρ st1
def mIfT (c : M Bool) (a b : M Bool) : M Bool := fun ρ st => (c ρ st).bind fun x st1 => if x = true then a ρ st1 else b ρ st1
theorem td_and {a b : M Bool} {σ : L2.St} {Q : Bool → Hp → Prop} (h : TDT C W (mAndT a b) σ H Q) : tAnd (TDT C W a) (TDT C W b) σ H Q := by
  obtain ⟨μ, ρ, st, R, E, h⟩ := h
  refine ⟨μ, ρ, st, R, E, (Post.bind (R := RB) h).imp fun v H1 ⟨x, st1, μ1, _, e1, R1, d1, h1⟩ => ?_⟩
  subst d1
  cases v with
  | true => exact iteT ⟨μ1, ρ, st1, R1, E.ext e1, h1⟩
  | false => exact iteF (h1 false μ1 H1 Ext.refl R1 rfl)
theorem td_or {a b : M Bool} {σ : L2.St} {Q : Bool → Hp → Prop} (h : TDT C W (mOrT a b) σ H Q) : tOr (TDT C W a) (TDT C W b) σ H Q := by
  obtain ⟨μ, ρ, st, R, E, h⟩ := h
  refine ⟨μ, ρ, st, R, E, (Post.bind (R := RB) h).imp fun v H1 ⟨x, st1, μ1, _, e1, R1, d1, h1⟩ => ?_⟩
  subst d1
  cases v with
  | true => exact iteT (h1 true μ1 H1 Ext.refl R1 rfl)
  | false => exact iteF ⟨μ1, ρ, st1, R1, E.ext e1, h1⟩
theorem td_not {a : M Bool} {σ : L2.St} {Q : Bool → Hp → Prop} (h : TDT C W (mNotT a) σ H Q) : tNot (TDT C W a) σ H Q := by
  obtain ⟨μ, ρ, st, R, E, h⟩ := h
  refine ⟨μ, ρ, st, R, E, (Post.bind (R := RB) h).imp fun v H1 ⟨x, st1, μ1, _, e1, R1, d1, h1⟩ => ?_⟩
  subst d1
  exact h1 (!v) μ1 H1 Ext.refl R1 rfl
theorem pe_ifD {c a b : Expr} {pos : Pos} {mc : M Bool} {ma mb : M D} (hc : PT X c (TDT C W mc)) (ha : PE X a (TD C W ma)) (hb : PE X b (TD C W mb)) : PE X (.IfExp c a b pos) (TD C W (mIfE mc ma mb)) :=
  (pe_ifExp hc ha hb).imp fun σ H Q ⟨μ, ρ, st, R, E, h⟩ => by
    refine ⟨μ, ρ, st, R, E, (Post.bind (R := RB) h).imp fun v H1 ⟨x, st1, μ1, _, e1, R1, d1, h1⟩ => ?_⟩
    subst d1
    cases v with
    | true => exact iteT ⟨μ1, ρ, st1, R1, E.ext e1, h1⟩
    | false => exact iteF ⟨μ1, ρ, st1, R1, E.ext e1, h1⟩
/-- as values, by truth -/
def mAndV (a b : M D) : M D := fun ρ st => (a ρ st).bind fun x st1 => match dTru x st1 with
  | some true => b ρ st1
  | some false => .ok x st1
  | none => .no
def mOrV (a b : M D) : M D := fun ρ st => (a ρ st).bind fun x st1 => match dTru x st1 with
  | some true => .ok x st1
  | some false => b ρ st1
  | none => .no
def mNotV (a : M D) : M D := fun ρ st => (a ρ st).bind fun x st1 => match dTru x st1 with
  | some b => .ok (.bl (!b)) st1
  | none => .no
theorem td_andV {a b : M D} (hK : X.K = C.K) {σ : L2.St} {Q : VK} (h : TD C W (mAndV a b) σ H Q) : tAndT X.K (TD C W a) (TD C W b) σ H Q := by
  obtain ⟨μ, ρ, st, R, E, h⟩ := h
  refine ⟨μ, ρ, st, R, E, (Post.bind (R := Dat) h).imp fun v H1 ⟨x, st1, μ1, _, e1, R1, d1, h1⟩ => ?_⟩
  cases q : dTru x st1 with
  | none => simp only [q] at h1; exact False.elim h1
  | some k =>
    refine ⟨k, by rw [hK]; exact tru_of R1 d1 q, ?_⟩
    cases k with
    | true => simp only [q] at h1; exact iteT ⟨μ1, ρ, st1, R1, E.ext e1, h1⟩
    | false => simp only [q] at h1; exact iteF (Post.now R1 h1 d1)
theorem td_orV {a b : M D} (hK : X.K = C.K) {σ : L2.St} {Q : VK} (h : TD C W (mOrV a b) σ H Q) : tOrT X.K (TD C W a) (TD C W b) σ H Q := by
  obtain ⟨μ, ρ, st, R, E, h⟩ := h
  refine ⟨μ, ρ, st, R, E, (Post.bind (R := Dat) h).imp fun v H1 ⟨x, st1, μ1, _, e1, R1, d1, h1⟩ => ?_⟩
  cases q : dTru x st1 with
  | none => simp only [q] at h1; exact False.elim h1
  | some k =>
    refine ⟨k, by rw [hK]; exact tru_of R1 d1 q, ?_⟩
    cases k with
    | true => simp only [q] at h1; exact iteT (Post.now R1 h1 d1)
    | false => simp only [q] at h1; exact iteF ⟨μ1, ρ, st1, R1, E.ext e1, h1⟩
theorem td_notV {a : M D} (hK : X.K = C.K) {σ : L2.St} {Q : VK} (h : TD C W (mNotV a) σ H Q) : tNotT X.K (TD C W a) σ H Q := by
  obtain ⟨μ, ρ, st, R, E, h⟩ := h
  refine ⟨μ, ρ, st, R, E, (Post.bind (R := Dat) h).imp fun v H1 ⟨x, st1, μ1, _, e1, R1, d1, h1⟩ => ?_⟩
  cases q : dTru x st1 with
  | none => simp only [q] at h1; exact False.elim h1
  | some k => simp only [q] at h1; exact ⟨k, by rw [hK]; exact tru_of R1 d1 q, Post.now R1 h1 (.bl _)⟩
/-- a chain a op b op' c -/
def mChain (f g : D → D → Store → O D) (a b c : M D) : M D := fun ρ st => (a ρ st).bind fun x st1 => (b ρ st1).bind fun y st2 => (f x y st2).bind fun z st3 => match z with
  | .bl true => (c ρ st3).bind fun w st4 => g y w st4
  | .bl false => .ok (.bl false) st3
  | _ => .no
theorem snd_run {r : R2} {f : D → D → Store → O D} (hf : Snd2 C r f) {σ : L2.St} {x y : V} {a b : D} {Q : VK} (R : C.Rel μ st H) (da : Dat C.K st.length μ H x a) (db : Dat C.K st.length μ H y b) (h : Post C Dat W σ Q st.length μ H (f a b st)) : r x y H Q :=
  hf μ st H x y a b W σ Q R da db h
theorem td_chain {r r' : R2} {f g : D → D → Store → O D} {a b c : M D} (hf : Snd2 C r f) (hg : Snd2 C r' g) {σ : L2.St} {Q : VK} (h : TD C W (mChain f g a b c) σ H Q) : tChain r r' (TD C W a) (TD C W b) (TD C W c) σ H Q := by
  obtain ⟨μ, ρ, st, R, E, h⟩ := h
  refine ⟨μ, ρ, st, R, E, (Post.bind (R := Dat) h).imp fun v H1 ⟨x, st1, μ1, _, e1, R1, d1, h1⟩ => ?_⟩
  refine ⟨μ1, ρ, st1, R1, E.ext e1, (Post.bind (R := Dat) h1).imp fun w H2 ⟨y, st2, μ2, _, e2, R2, d2, h2⟩ => ?_⟩
  refine snd_run hf R2 (d1.ext e2) d2 ((Post.bind (R := Dat) h2).imp fun z H3 ⟨u, st3, μ3, _, e3, R3, d3, h3⟩ => ?_)
  cases d3 with
  | bl k =>
    cases k with
    | true =>
      refine ⟨true, rfl, iteT ?_⟩
      refine ⟨μ3, ρ, st3, R3, (E.ext (e1.trans e2)).ext e3, (Post.bind (R := Dat) h3).imp fun w' H4 ⟨u', st4, μ4, _, e4, R4, d4, h4⟩ => ?_⟩
      exact snd_run hg R4 ((d2.ext e3).ext e4) d4 h4
    | false => exact ⟨false, rfl, iteF (Post.now R3 h3 (.bl _))⟩
  | _ => exact False.elim h3
end

/-! ### built-in calls -/
def dLen : List D → Store → O D
  | [.str s], st => .ok (.int s.length) st
  | [d], st => match dctOf st d with
    | some kvs => .ok (.int kvs.length) st
    | none => match seqOf st d with
      | some xs => .ok (.int xs.length) st
      | none => .no
  | _, _ => .no
def unK : Key → D
  | .inl i => .int i
  | .inr s => .str s
def dList (m : Bool) : List D → Store → O D
  | [d], st => match seqOf st d with
    | some xs => mkL m xs st
    | none => match dctOf st d with
      | some kvs => mkL m (kvs.map fun kv => unK kv.1) st
      | none => .no
  | _, _ => .no
def dTuple : List D → Store → O D
  | [.tup xs], st => .ok (.tup xs) st
  | [d], st => match seqOf st d with
    | some xs => mkT xs st
    | none => .no
  | _, _ => .no
def dInt : List D → Store → O D
  | [.int i], st => .ok (.int i) st
  | [.bl b], st => .ok (.int (if b then 1 else 0)) st
  | [.str s], st => match PySem.intText? s with
    | some n => if s.length ≤ 640 then .ok (.int n) st else .no
    | none => .no
  | _, _ => .no
def dStr : List D → Store → O D
  | [.int i], st => if 0 ≤ i ∧ i < 1000000000 then .ok (.str (Str.ofString (toString i))) st else .no
  | _, _ => .no
def intsD : List D → Option (List Int)
  | [] => some []
  | .int i :: r => (intsD r).map (i :: ·)
  | _ :: _ => none
def boolsD : List D → Option (List Bool)
  | [] => some []
  | .bl b :: r => (boolsD r).map (b :: ·)
  | _ :: _ => none
def strsD : List D → Option (List Str)
  | [] => some []
  | .str b :: r => (strsD r).map (b :: ·)
  | _ :: _ => none
def listOf (st : Store) : D → Option (List D)
  | .frz xs => some xs
  | d => lstOf st d
def dSum : List D → Store → O D
  | [d], st => match listOf st d with
    | some xs => match intsD xs with
      | some ns => .ok (.int ns.sum) st
      | none => .no
    | none => .no
  | _, _ => .no
def dAllAny (all : Bool) : List D → Store → O D
  | [d], st => match listOf st d with
    | some xs => match boolsD xs with
      | some bs => .ok (.bl (if all then bs.all id else bs.any id)) st
      | none => .no
    | none => .no
  | _, _ => .no
section
variable {C : Cf} {X : Cx} {μ : Mu} {st : Store} {H : Hp} {W : WX}
theorem listOf_ok (R : C.Rel μ st H) {v : V} {d : D} {xs : List D} (h : Dat C.K st.length μ H v d) (e : listOf st d = some xs) : ∃ a vs, v = .ref a ∧ SqL C.K H a vs ∧ DatL C.K st.length μ H vs xs ∧ xs.length ≤ sizeLine := by
  cases h with
  | frz h hl hs => cases e; exact ⟨_, _, rfl, h.sq, hs, hl⟩
  | lst h nl hl hs => cases e; exact ⟨_, _, rfl, .of h, hs, hl⟩
  | @ref i hi =>
    obtain ⟨a, vs, h1, h2, h3, h4⟩ := lstOf_ok R (.ref hi) (show lstOf st (.ref i) = some xs from e)
    exact ⟨a, vs, h1, .of h2, h3, h4⟩
  | _ => cases e
theorem ints_of {K : PySem.W.Frag} {n : Nat} : ∀ {xs : List D} {vs : List V} {ns : List Int}, DatL K n μ H vs xs → intsD xs = some ns → vs = ns.map V.int
  | [], _, _, h, e => by cases h; cases e; rfl
  | d :: r, _, ns, h, e => by
    cases h with
    | cons h1 h2 =>
      cases h1 with
      | int i =>
        obtain ⟨ms, q, rfl⟩ := map_some (show (intsD r).map (i :: ·) = some ns from e)
        rw [ints_of h2 q]; rfl
      | _ => cases e
theorem bools_of {K : PySem.W.Frag} {n : Nat} : ∀ {xs : List D} {vs : List V} {ns : List Bool}, DatL K n μ H vs xs → boolsD xs = some ns → vs = ns.map V.bl
  | [], _, _, h, e => by cases h; cases e; rfl
  | d :: r, _, ns, h, e => by
    cases h with
    | cons h1 h2 =>
      cases h1 with
      | bl i =>
        obtain ⟨ms, q, rfl⟩ := map_some (show (boolsD r).map (i :: ·) = some ns from e)
        rw [bools_of h2 q]; rfl
      | _ => cases e
theorem strs_of {K : PySem.W.Frag} {n : Nat} : ∀ {xs : List D} {vs : List V} {ns : List Str}, DatL K n μ H vs xs → strsD xs = some ns → vs = ns.map V.str ∧ ∀ s ∈ ns, s.length ≤ sizeLine ∧ PyData.strOk s = true
  | [], _, _, h, e => by cases h; cases e; exact ⟨rfl, by simp⟩
  | d :: r, _, ns, h, e => by
    cases h with
    | cons h1 h2 =>
      cases h1 with
      | @str i hl ok =>
        obtain ⟨ms, q, rfl⟩ := map_some (show (strsD r).map (i :: ·) = some ns from e)
        obtain ⟨a, b⟩ := strs_of h2 q
        refine ⟨by rw [a]; rfl, fun s hs => ?_⟩
        rcases List.mem_cons.mp hs with rfl | hs
        · exact ⟨hl, ok⟩
        · exact b s hs
      | _ => cases e
theorem DatL.of_strs {K : PySem.W.Frag} {n : Nat} : ∀ {ss : List Str}, (∀ s ∈ ss, s.length ≤ sizeLine ∧ PyData.strOk s = true) → DatL K n μ H (ss.map V.str) (ss.map D.str)
  | [], _ => .nil
  | s :: r, h => .cons (.str (h s (List.mem_cons_self ..)).1 (h s (List.mem_cons_self ..)).2) (DatL.of_strs fun x hx => h x (List.mem_cons_of_mem _ hx))
theorem snd_len (hK : X.K = C.K) : SndL C (fun xs H Q => ∃ r, CallR X (.builtin "len") r ∧ r xs H Q) dLen := by
  intro μ st H xs ds W σ Q R hd h
  cases hd with
  | nil => exact False.elim h
  | @cons v vs d ds h1 h2 =>
    cases h2 with
    | cons _ _ => cases d <;> exact False.elim h
    | nil =>
      have rest : Post C Dat W σ Q st.length μ H (match dctOf st d with
        | some kvs => .ok (.int kvs.length) st
        | none => match seqOf st d with
          | some xs => .ok (.int xs.length) st
          | none => .no) → ∃ r, CallR X (.builtin "len") r ∧ r [v] H Q := fun h => by
        cases q : dctOf st d with
        | some kvs =>
          rw [q] at h
          obtain ⟨a, vs, rfl, ha, hv, _⟩ := dctOf_ok R h1 q
          refine ⟨_, call_lenD, a, vs, rfl, ha, ?_⟩
          rw [hv.length]; exact Post.now R h (.int _)
        | none =>
          rw [q] at h
          cases q2 : seqOf st d with
          | none => simp only [q2] at h; exact False.elim h
          | some xs =>
            simp only [q2] at h
            obtain ⟨a, vs, rfl, ha, hv, _⟩ := seqOf_ok R h1 q2
            refine ⟨_, call_len_seq, a, vs, rfl, by rw [hK]; exact ha, ?_⟩
            rw [hv.length]; exact Post.now R h (.int _)
      cases h1 with
      | str hl ok => exact ⟨_, call_len_str, _, rfl, hl, Post.now R h (.int _)⟩
      | _ => exact rest h
theorem keys_out {K : PySem.W.Frag} {n : Nat} : ∀ {vs : List (Key × V)} {ds : List (Key × D)}, DatK K n μ H vs ds → DatL K n μ H (vs.map fun kv => kV kv.1) (ds.map fun kv => unK kv.1)
  | _, _, .nil => .nil
  | _, _, .cons (k := .inl i) _ _ t => .cons (.int i) (keys_out t)
  | _, _, .cons (k := .inr s) q _ t => .cons (.str q.1 q.2) (keys_out t)
theorem snd_list (hK : X.K = C.K) (hc : X.calm = true) (m : Bool) : SndL C (fun xs H Q => ∃ r, CallR X (.type "list") r ∧ r xs H Q) (dList m) := by
  intro μ st H xs ds W σ Q R hd h
  cases hd with
  | nil => exact False.elim h
  | @cons v vs d ds h1 h2 =>
    cases h2 with
    | cons _ _ => exact False.elim h
    | nil =>
      have h' : Post C Dat W σ Q st.length μ H (match seqOf st d with
        | some xs => mkL m xs st
        | none => match dctOf st d with
          | some kvs => mkL m (kvs.map fun kv => unK kv.1) st
          | none => .no) := h
      cases q2 : seqOf st d with
      | none =>
        simp only [q2] at h'
        cases q3 : dctOf st d with
        | none => simp only [q3] at h'; exact False.elim h'
        | some kvs =>
          simp only [q3] at h'
          obtain ⟨a, vs, rfl, ha, hv, _⟩ := dctOf_ok R h1 q3
          exact ⟨_, call_listD hc, a, vs, rfl, .inl ha, fun p hp => newL R h' (keys_out hv) hp⟩
      | some xs =>
        simp only [q2] at h'
        obtain ⟨a, vs, rfl, ha, hv, _⟩ := seqOf_ok R h1 q2
        exact ⟨_, call_list_of, a, vs, rfl, by rw [hK]; exact ha, fun z hz => newL R h' hv hz⟩
theorem snd_tuple (hK : X.K = C.K) : SndL C (fun xs H Q => ∃ r, CallR X (.type "tuple") r ∧ r xs H Q) dTuple := by
  intro μ st H xs ds W σ Q R hd h
  cases hd with
  | nil => exact False.elim h
  | @cons v vs d ds h1 h2 =>
    cases h2 with
    | cons _ _ => cases d <;> exact False.elim h
    | nil =>
      have rest : (∀ xs, d ≠ .tup xs) → Post C Dat W σ Q st.length μ H (match seqOf st d with
        | some xs => mkT xs st
        | none => .no) → ∃ r, CallR X (.type "tuple") r ∧ r [v] H Q := fun hn h => by
        cases q2 : seqOf st d with
        | none => simp only [q2] at h; exact False.elim h
        | some xs =>
          simp only [q2] at h
          have el : listOf st d = some xs := by
            cases d <;> first | exact q2 | exact absurd rfl (hn _) | cases q2
          obtain ⟨a, vs, rfl, ha, hv, _⟩ := listOf_ok R h1 el
          exact ⟨_, call_tuple_of, a, vs, rfl, .inl ⟨by rw [hK]; exact ha, fun z hz => newT R h hv hz⟩⟩
      cases h1 with
      | tup hT hl hs => exact ⟨_, call_tupleT, _, _, rfl, by rw [hK]; exact hT, Post.now R h (.tup hT hl hs)⟩
      | _ => exact rest (fun _ z => by cases z) h
theorem snd_int : SndL C (fun xs H Q => ∃ r, CallR X (.type "int") r ∧ r xs H Q) dInt := by
  intro μ st H xs ds W σ Q R hd h
  cases hd with
  | nil => exact False.elim h
  | @cons v vs d ds h1 h2 =>
    cases h2 with
    | cons _ _ => cases d <;> exact False.elim h
    | nil =>
      cases h1 with
      | int i => exact ⟨_, call_int1, .inl ⟨i, rfl, Post.now R h (.int _)⟩⟩
      | bl b => exact ⟨_, call_int1, .inr ⟨b, rfl, Post.now R h (.int _)⟩⟩
      | @str s hl ok =>
        have h' : Post C Dat W σ Q st.length μ H (match PySem.intText? s with
          | some n => if s.length ≤ 640 then .ok (.int n) st else .no
          | none => .no) := h
        cases q : PySem.intText? s with
        | none => rw [q] at h'; exact False.elim h'
        | some n =>
          rw [q] at h'
          dsimp only at h'
          split at h'
          · exact ⟨_, call_int_str, s, n, rfl, q, by assumption, Post.now R h' (.int _)⟩
          · exact False.elim h'
      | _ => exact False.elim h
theorem snd_sum (hK : X.K = C.K) (hc : X.calm = true) : SndL C (fun xs H Q => ∃ r, CallR X (.builtin "sum") r ∧ r xs H Q) dSum := by
  intro μ st H xs ds W σ Q R hd h
  cases hd with
  | nil => exact False.elim h
  | @cons v vs d ds h1 h2 =>
    cases h2 with
    | cons _ _ => exact False.elim h
    | nil =>
      have h' : Post C Dat W σ Q st.length μ H (match listOf st d with
        | some xs => match intsD xs with
          | some ns => .ok (.int ns.sum) st
          | none => .no
        | none => .no) := h
      cases q2 : listOf st d with
      | none => simp only [q2] at h'; exact False.elim h'
      | some xs =>
        simp only [q2] at h'
        cases q3 : intsD xs with
        | none => simp only [q3] at h'; exact False.elim h'
        | some ns =>
          simp only [q3] at h'
          obtain ⟨a, vs, rfl, ha, hv, _⟩ := listOf_ok R h1 q2
          rw [ints_of hv q3] at ha
          exact ⟨_, cr_sum hc, a, ns, rfl, by rw [hK]; exact ha, Post.now R h' (.int _)⟩
theorem snd_all (hK : X.K = C.K) (hc : X.calm = true) : SndL C (fun xs H Q => ∃ r, CallR X (.builtin "all") r ∧ r xs H Q) (dAllAny true) := by
  intro μ st H xs ds W σ Q R hd h
  cases hd with
  | nil => exact False.elim h
  | @cons v vs d ds h1 h2 =>
    cases h2 with
    | cons _ _ => exact False.elim h
    | nil =>
      have h' : Post C Dat W σ Q st.length μ H (match listOf st d with
        | some xs => match boolsD xs with
          | some bs => .ok (.bl (bs.all id)) st
          | none => .no
        | none => .no) := h
      cases q2 : listOf st d with
      | none => simp only [q2] at h'; exact False.elim h'
      | some xs =>
        simp only [q2] at h'
        cases q3 : boolsD xs with
        | none => simp only [q3] at h'; exact False.elim h'
        | some ns =>
          simp only [q3] at h'
          obtain ⟨a, vs, rfl, ha, hv, _⟩ := listOf_ok R h1 q2
          rw [bools_of hv q3] at ha
          exact ⟨_, cr_all hc, a, ns, rfl, by rw [hK]; exact ha, Post.now R h' (.bl _)⟩
theorem snd_any (hK : X.K = C.K) (hc : X.calm = true) : SndL C (fun xs H Q => ∃ r, CallR X (.builtin "any") r ∧ r xs H Q) (dAllAny false) := by
  intro μ st H xs ds W σ Q R hd h
  cases hd with
  | nil => exact False.elim h
  | @cons v vs d ds h1 h2 =>
    cases h2 with
    | cons _ _ => exact False.elim h
    | nil =>
      have h' : Post C Dat W σ Q st.length μ H (match listOf st d with
        | some xs => match boolsD xs with
          | some bs => .ok (.bl (bs.any id)) st
          | none => .no
        | none => .no) := h
      cases q2 : listOf st d with
      | none => simp only [q2] at h'; exact False.elim h'
      | some xs =>
        simp only [q2] at h'
        cases q3 : boolsD xs with
        | none => simp only [q3] at h'; exact False.elim h'
        | some ns =>
          simp only [q3] at h'
          obtain ⟨a, vs, rfl, ha, hv, _⟩ := listOf_ok R h1 q2
          rw [bools_of hv q3] at ha
          exact ⟨_, cr_any hc, a, ns, rfl, by rw [hK]; exact ha, Post.now R h' (.bl _)⟩
end
end Mi
/-! Mi7: methods of built-in types, isinstance. -/
namespace Mi
open PySem L2

/-! ### texts -/
/-- cut at each c -/
def spC (c : Nat) : List Nat → List (List Nat)
  | [] => [[]]
  | x :: r => if x = c then [] :: spC c r else match spC c r with
    | h :: t => (x :: h) :: t
    | [] => [[x]]
theorem spC_ne (c : Nat) : ∀ l : List Nat, spC c l ≠ []
  | [] => by simp [spC]
  | x :: r => by
    unfold spC
    split
    · simp
    · split <;> simp
theorem spC_hit (c : Nat) (r : List Nat) : spC c (c :: r) = [] :: spC c r := by
  show (if c = c then [] :: spC c r else _) = _
  rw [if_pos rfl]
theorem spC_miss {c x : Nat} (r : List Nat) (h : ¬ x = c) : spC c (x :: r) = match spC c r with
    | h :: t => (x :: h) :: t
    | [] => [[x]] := by
  show (if x = c then [] :: spC c r else match spC c r with
    | h :: t => (x :: h) :: t
    | [] => [[x]]) = _
  rw [if_neg h]
theorem spl_spC (c : Nat) : ∀ (l acc : List Nat), TL.spl [c] 0 acc l = match spC c l with
    | h :: t => (acc ++ h) :: t
    | [] => [acc]
  | [], acc => by simp [TL.spl, spC]
  | x :: r, acc => by
    by_cases e : x = c
    · subst e
      rw [TL.spl_hit (by simp [TL.pre]), spC_hit]
      have ih := spl_spC x r []
      simp only [List.length_singleton, Nat.sub_self]
      rw [ih]
      cases q : spC x r with
      | nil => exact absurd q (spC_ne x r)
      | cons h t => simp
    · rw [TL.spl_miss (by simp [TL.pre, e]), spl_spC c r (acc ++ [x]), spC_miss r e]
      cases q : spC c r with
      | nil => exact absurd q (spC_ne c r)
      | cons h t => simp
theorem mem_spC {c : Nat} : ∀ {l p : List Nat}, p ∈ spC c l → p.length ≤ l.length ∧ ∀ x ∈ p, x ∈ l
  | [], p, h => by simp [spC] at h; subst h; simp
  | x :: r, p, h => by
    unfold spC at h
    split at h
    · rcases List.mem_cons.mp h with rfl | h
      · simp
      · obtain ⟨h1, h2⟩ := mem_spC h
        exact ⟨by rw [List.length_cons]; omega, fun y hy => List.mem_cons_of_mem _ (h2 y hy)⟩
    · cases q : spC c r with
      | nil => exact absurd q (spC_ne c r)
      | cons a t =>
        rw [q] at h
        have ih := @mem_spC c r
        rcases List.mem_cons.mp h with rfl | h
        · obtain ⟨h1, h2⟩ := ih (p := a) (by rw [q]; exact List.mem_cons_self ..)
          refine ⟨by rw [List.length_cons, List.length_cons]; omega, fun y hy => ?_⟩
          rcases List.mem_cons.mp hy with rfl | hy
          · exact List.mem_cons_self ..
          · exact List.mem_cons_of_mem _ (h2 y hy)
        · obtain ⟨h1, h2⟩ := ih (p := p) (by rw [q]; exact List.mem_cons_of_mem _ h)
          exact ⟨by rw [List.length_cons]; omega, fun y hy => List.mem_cons_of_mem _ (h2 y hy)⟩
def splitS (c : Nat) (s : Str) : List Str := (spC c s.cps.toList).map fun l => ⟨l.toArray⟩
theorem split_eq {c : Nat} (hc : c < 256) (s : Str) : Txt.split s ⟨#[c]⟩ = splitS c s := by
  refine TL.map_tl_inj ?_
  rw [TL.split_spl s ⟨#[c]⟩ (by simp [TL.tl]) (TL.kind_ok (by simp [hc]))]
  have : TL.tl (⟨#[c]⟩ : Str) = [c] := rfl
  rw [this, spl_spC]
  unfold splitS
  rw [List.map_map]
  have e2 : (TL.tl ∘ fun l : List Nat => (⟨l.toArray⟩ : Str)) = id := by funext l; rfl
  rw [e2, List.map_id]
  cases q : spC c s.cps.toList with
  | nil => exact absurd q (spC_ne _ _)
  | cons h t => simp
theorem splitS_ok {c : Nat} {s : Str} (hl : s.length ≤ sizeLine) (ok : PyData.strOk s = true) : ∀ p ∈ splitS c s, p.length ≤ sizeLine ∧ PyData.strOk p = true := fun p hp => by
  obtain ⟨l, hm, rfl⟩ := List.mem_map.mp hp
  obtain ⟨h1, h2⟩ := mem_spC hm
  refine ⟨?_, strOk_list fun x hx => strOk_mem ok (h2 x hx)⟩
  show l.toArray.size ≤ _
  rw [List.size_toArray]
  refine Nat.le_trans h1 ?_
  rw [Array.length_toList]; exact hl
theorem joinL_ok {S : List Nat} (hS : ∀ c ∈ S, c < 0x110000) : ∀ {ps : List (List Nat)}, (∀ p ∈ ps, ∀ c ∈ p, c < 0x110000) → ∀ c ∈ TL.joinL S ps, c < 0x110000
  | [], _, c, h => by simp [TL.joinL] at h
  | [p], hp, c, h => hp p (List.mem_cons_self ..) c h
  | p :: q :: r, hp, c, h => by
    rcases List.mem_append.mp (show c ∈ p ++ (S ++ TL.joinL S (q :: r)) from h) with h | h
    · exact hp p (List.mem_cons_self ..) c h
    · rcases List.mem_append.mp h with h | h
      · exact hS c h
      · exact joinL_ok hS (fun p' hp' => hp p' (List.mem_cons_of_mem _ hp')) c h
theorem join_ok {y : Str} {ps : List Str} (hy : PyData.strOk y = true) (hp : ∀ p ∈ ps, PyData.strOk p = true) : PyData.strOk (Txt.join y ps) = true := by
  have e : (Txt.join y ps).cps.toList = TL.joinL (TL.tl y) (ps.map TL.tl) := by
    rw [TL.join_eq]; exact TL.tl_join y ps
  unfold PyData.strOk
  rw [← Array.all_toList, List.all_eq_true, e]
  intro c hc
  have := joinL_ok (S := TL.tl y) (fun c hc => strOk_mem hy hc) (ps := ps.map TL.tl) (fun p hm c hc => by
    obtain ⟨z, hz, rfl⟩ := List.mem_map.mp hm
    exact strOk_mem (hp z hz) hc) c hc
  simpa using this
theorem join_len {y : Str} {ps : List Str} (h : (ps.map (·.length)).sum + ps.length * y.length ≤ 16777216) : (Txt.join y ps).length ≤ sizeLine := by
  rw [TL.join_eq]
  exact Nat.le_trans (StrLaws.join_length_le y ps) h

/-! ### methods by name -/
def tyD (T : String) (d : D) (st : Store) : Bool := match d with
  | .str _ => T == "str"
  | .int _ => T == "int"
  | d => (T == "list" && (listOf st d).isSome) || (T == "dict" && (dctOf st d).isSome)
def mMeth (T : String) (f : D → List D → Store → O D) (o : M D) (a : M (List D)) : M D := fun ρ st => (o ρ st).bind fun x st1 => if tyD T x st1 = true then (a ρ st1).bind fun xs st2 => f x xs st2 else .no
def SndM (C : Cf) (r : V → List V → Hp → VK → Prop) (f : D → List D → Store → O D) : Prop := ∀ (μ : Mu) (st : Store) (H : Hp) (x : V) (a : D) (xs : List V) (ds : List D) (W : WX) (σ : L2.St) (Q : VK), C.Rel μ st H → Dat C.K st.length μ H x a → DatL C.K st.length μ H xs ds → Post C Dat W σ Q st.length μ H (f a ds st) → r x xs H Q
section
variable {C : Cf} {X : Cx} {μ : Mu} {st : Store} {H : Hp} {W : WX}
theorem ty_of (R : C.Rel μ st H) {T : String} {v : V} {d : D} (h : Dat C.K st.length μ H v d) (e : tyD T d st = true) : tyV C.K T v H := by
  have rest : ((T == "list" && (listOf st d).isSome) || (T == "dict" && (dctOf st d).isSome)) = true → tyV C.K T v H := fun e => by
    rw [Bool.or_eq_true, Bool.and_eq_true, Bool.and_eq_true] at e
    rcases e with ⟨e1, e2⟩ | ⟨e1, e2⟩
    · obtain ⟨xs, q⟩ := Option.isSome_iff_exists.mp e2
      obtain ⟨a, vs, rfl, ha, _⟩ := listOf_ok R h q
      exact .inl ⟨by simpa using e1, vs, ha⟩
    · obtain ⟨xs, q⟩ := Option.isSome_iff_exists.mp e2
      obtain ⟨a, vs, rfl, ha, _⟩ := dctOf_ok R h q
      exact .inr (.inr (.inl ⟨by simpa using e1, .inl ⟨vs, ha⟩⟩))
  cases h with
  | str hl ok => show T = "str"; simpa [tyD] using e
  | int i => show T = "int"; simpa [tyD] using e
  | _ => exact rest e
theorem td_meth {T : String} {r : V → List V → Hp → VK → Prop} {f : D → List D → Store → O D} {o : M D} {a : M (List D)} (hK : X.K = C.K) (hf : SndM C r f) {σ : L2.St} {Q : VK} (h : TD C W (mMeth T f o a) σ H Q) : tBM X.K T r (TD C W o) (TDA C W a) σ H Q := by
  obtain ⟨μ, ρ, st, R, E, h⟩ := h
  refine ⟨μ, ρ, st, R, E, (Post.bind (R := Dat) h).imp fun v H1 ⟨x, st1, μ1, _, e1, R1, d1, h1⟩ => ?_⟩
  by_cases ht : tyD T x st1 = true
  · rw [if_pos ht] at h1
    refine ⟨by rw [hK]; exact ty_of R1 d1 ht, μ1, ρ, st1, R1, E.ext e1, (Post.bind (R := DatL) h1).imp fun y H2 ⟨b, st2, μ2, _, e2, R2, d2, h2⟩ => ?_⟩
    exact hf μ2 st2 H2 v x y b W σ Q R2 (d1.ext e2) d2 h2
  · rw [if_neg ht] at h1; exact False.elim h1
theorem td_meth0 {T : String} {r : V → List V → Hp → VK → Prop} {f : D → List D → Store → O D} {o : M D} (hK : X.K = C.K) (hf : SndM C r f) {σ : L2.St} {Q : VK} (h : TD C W (mMeth T f o mNil) σ H Q) : tBM0 X.K T r (TD C W o) σ H Q := by
  obtain ⟨μ, ρ, st, R, E, h⟩ := h
  refine ⟨μ, ρ, st, R, E, (Post.bind (R := Dat) h).imp fun v H1 ⟨x, st1, μ1, _, e1, R1, d1, h1⟩ => ?_⟩
  by_cases ht : tyD T x st1 = true
  · rw [if_pos ht] at h1
    exact ⟨by rw [hK]; exact ty_of R1 d1 ht, hf μ1 st1 H1 v x [] [] W σ Q R1 d1 .nil h1⟩
  · rw [if_neg ht] at h1; exact False.elim h1

def dSplit (m : Bool) (x : D) (xs : List D) (st : Store) : O D := match x, xs with
  | .str s, [.str y] => match y.cps.toList with
    | [c] => if c < 256 ∧ s.length + 2 ≤ sizeLine then mkL m ((splitS c s).map D.str) st else .no
    | _ => .no
  | _, _ => .no
theorem snd_split (m : Bool) : SndM C (fun x xs H Q => ∃ r, MtR X "str.split" r ∧ r x xs H Q) (dSplit m) := by
  intro μ st H x a xs ds W σ Q R da dl h
  cases da with
  | @str s hl ok =>
    cases dl with
    | nil => exact False.elim h
    | cons h1 h2 =>
      cases h2 with
      | cons _ _ => rename_i d _ _ _ _ _ _; cases d <;> exact False.elim h
      | nil =>
        cases h1 with
        | @str y hl' ok' =>
          have h' : Post C Dat W σ Q st.length μ H (match y.cps.toList with
            | [c] => if c < 256 ∧ s.length + 2 ≤ sizeLine then mkL m ((splitS c s).map D.str) st else .no
            | _ => .no) := h
          split at h'
          · rename_i c e
            have ex := str_one e
            subst ex
            split at h'
            · rename_i hc
              refine ⟨_, mt_split, s, _, rfl, rfl, rfl, hc.2, fun p hp => ?_⟩
              rw [split_eq hc.1]
              exact newL R h' (DatL.of_strs (splitS_ok hl ok)) hp
            · exact False.elim h'
          · exact False.elim h'
        | _ => exact False.elim h
  | _ => exact False.elim h
def dJoin (x : D) (xs : List D) (st : Store) : O D := match x, xs with
  | .str y, [d] => match seqOf st d with
    | some l => match strsD l with
      | some ps => if (ps.map (·.length)).sum + ps.length * y.length ≤ 16777216 then .ok (.str (Txt.join y ps)) st else .no
      | none => .no
    | none => .no
  | _, _ => .no
theorem snd_join (hK : X.K = C.K) : SndM C (fun x xs H Q => ∃ r, MtR X "str.join" r ∧ r x xs H Q) dJoin := by
  intro μ st H x a xs ds W σ Q R da dl h
  cases da with
  | @str y hl ok =>
    cases dl with
    | nil => exact False.elim h
    | @cons v vs d ds h1 h2 =>
      cases h2 with
      | cons _ _ => exact False.elim h
      | nil =>
        have h' : Post C Dat W σ Q st.length μ H (match seqOf st d with
          | some l => match strsD l with
            | some ps => if (ps.map (·.length)).sum + ps.length * y.length ≤ 16777216 then .ok (.str (Txt.join y ps)) st else .no
            | none => .no
          | none => .no) := h
        cases q : seqOf st d with
        | none => simp only [q] at h'; exact False.elim h'
        | some l =>
          simp only [q] at h'
          cases q2 : strsD l with
          | none => simp only [q2] at h'; exact False.elim h'
          | some ps =>
            simp only [q2] at h'
            split at h'
            · rename_i hc
              obtain ⟨p, vs, rfl, hp, hv, _⟩ := seqOf_ok R h1 q
              obtain ⟨e1, e2⟩ := strs_of hv q2
              rw [e1] at hp
              exact ⟨_, mt_join, y, p, ps, rfl, rfl, by rw [hK]; exact hp, hc, Post.now R h' (.str (join_len hc) (join_ok ok fun s hs => (e2 s hs).2))⟩
            · exact False.elim h'
  | _ => exact False.elim h
/-! ### lists that change -/
def dAppend (x : D) (xs : List D) (st : Store) : O D := match x, xs with
  | .ref i, [d] => match st[i]? with
    | some (.lst l) => if l.length < sizeLine then .ok .non (st.set i (.lst (l ++ [d]))) else .no
    | _ => .no
  | _, _ => .no
theorem setL_post {i : Nat} {l' : List D} {vs' : List V} {σ : L2.St} {Q : VK} {d : D} {v : V} {o0 : Ob} (R : C.Rel μ st H) (hi : st[i]? = some o0) (hu : o0.unl = true) (hv : DatL C.K st.length μ H vs' l') (hl : l'.length ≤ sizeLine) (hd : Dat C.K st.length μ H v d)
    (h : Post C Dat W σ Q st.length μ H (.ok d (st.set i (.lst l')))) : Q v (upd H (μ i) (.lst vs')) := by
  have E := R.ext_set (o := .lst vs') hi hu
  have el : (st.set i (.lst l')).length = st.length := List.length_set
  refine h v μ _ (by rw [el]; exact E) (R.set hi hu (fun _ z => by cases z) (fun _ _ z => by cases z) ⟨vs', upd_same, hv.ext E, hl⟩) ?_
  rw [el]
  exact hd.ext E
theorem live_lst (R : C.Rel μ st H) {i : Nat} {l : List D} (q : st[i]? = some (.lst l)) : i < st.length ∧ ∃ vs, H (μ i) = some (.lst vs) ∧ DatL C.K st.length μ H vs l ∧ l.length ≤ sizeLine := by
  obtain ⟨vs, h1, h2, h3⟩ := R.obj i _ q
  exact ⟨(List.getElem?_eq_some_iff.mp q).1, vs, h1, h2, h3⟩
theorem snd_append : SndM C (fun x xs H Q => ∃ r, MtR X "list.append" r ∧ r x xs H Q) dAppend := by
  intro μ st H x a xs ds W σ Q R da dl h
  cases da with
  | @ref i hi =>
    cases dl with
    | nil => exact False.elim h
    | @cons v vs d ds h1 h2 =>
      cases h2 with
      | cons _ _ => exact False.elim h
      | nil =>
        have h' : Post C Dat W σ Q st.length μ H (match st[i]? with
          | some (.lst l) => if l.length < sizeLine then .ok .non (st.set i (.lst (l ++ [d]))) else .no
          | _ => .no) := h
        cases q : st[i]? with
        | none => simp only [q] at h'; exact False.elim h'
        | some o =>
          cases o with
          | lst l =>
            simp only [q] at h'
            split at h'
            · rename_i hc
              obtain ⟨_, ws, hw, hwl, _⟩ := live_lst R q
              refine ⟨_, mt_append, μ i, ws, v, rfl, rfl, hw, by rw [hwl.length]; exact hc, ?_⟩
              exact setL_post R q rfl (hwl.append (.cons h1 .nil)) (by rw [List.length_append]; exact hc) .non h'
            · exact False.elim h'
          | dct _ => simp only [q] at h'; exact False.elim h'
          | ins _ _ => simp only [q] at h'; exact False.elim h'
          | lck _ => simp only [q] at h'; exact False.elim h'
  | _ => exact False.elim h
def dExtend (x : D) (xs : List D) (st : Store) : O D := match x, xs with
  | .ref i, [d] => match st[i]?, lstOf st d with
    | some (.lst l), some zs => if l.length + zs.length ≤ sizeLine then .ok .non (st.set i (.lst (l ++ zs))) else .no
    | _, _ => .no
  | _, _ => .no
theorem snd_extend : SndM C (fun x xs H Q => ∃ r, MtR X "list.extend" r ∧ r x xs H Q) dExtend := by
  intro μ st H x a xs ds W σ Q R da dl h
  cases da with
  | @ref i hi =>
    cases dl with
    | nil => exact False.elim h
    | @cons v vs d ds h1 h2 =>
      cases h2 with
      | cons _ _ => exact False.elim h
      | nil =>
        have h' : Post C Dat W σ Q st.length μ H (match st[i]?, lstOf st d with
          | some (.lst l), some zs => if l.length + zs.length ≤ sizeLine then .ok .non (st.set i (.lst (l ++ zs))) else .no
          | _, _ => .no) := h
        cases q : st[i]? with
        | none => simp only [q] at h'; exact False.elim h'
        | some o =>
          cases o with
          | lst l =>
            cases q2 : lstOf st d with
            | none => simp only [q, q2] at h'; exact False.elim h'
            | some zs =>
              simp only [q, q2] at h'
              split at h'
              · rename_i hc
                obtain ⟨_, ws, hw, hwl, _⟩ := live_lst R q
                obtain ⟨b, us, rfl, hb, hbl, _⟩ := lstOf_ok R h1 q2
                refine ⟨_, mt_extend, μ i, b, ws, us, rfl, rfl, hw, hb, by rw [hwl.length, hbl.length]; exact hc, ?_⟩
                exact setL_post R q rfl (hwl.append hbl) (by rw [List.length_append]; exact hc) .non h'
              · exact False.elim h'
          | dct _ => simp only [q] at h'; exact False.elim h'
          | ins _ _ => simp only [q] at h'; exact False.elim h'
          | lck _ => simp only [q] at h'; exact False.elim h'
  | _ => exact False.elim h
def dClear (x : D) (xs : List D) (st : Store) : O D := match x, xs with
  | .ref i, [] => match st[i]? with
    | some (.lst l) => .ok .non (st.set i (.lst []))
    | _ => .no
  | _, _ => .no
theorem snd_clear : SndM C (fun x xs H Q => ∃ r, MtR X "list.clear" r ∧ r x xs H Q) dClear := by
  intro μ st H x a xs ds W σ Q R da dl h
  cases da with
  | @ref i hi =>
    cases dl with
    | cons _ _ => exact False.elim h
    | nil =>
      have h' : Post C Dat W σ Q st.length μ H (match st[i]? with
        | some (.lst l) => .ok .non (st.set i (.lst []))
        | _ => .no) := h
      cases q : st[i]? with
      | none => simp only [q] at h'; exact False.elim h'
      | some o =>
        cases o with
        | lst l =>
          simp only [q] at h'
          obtain ⟨_, ws, hw, hwl, _⟩ := live_lst R q
          exact ⟨_, mt_clear, μ i, ws, rfl, rfl, hw, setL_post R q rfl .nil (Nat.zero_le _) .non h'⟩
        | dct _ => simp only [q] at h'; exact False.elim h'
        | ins _ _ => simp only [q] at h'; exact False.elim h'
        | lck _ => simp only [q] at h'; exact False.elim h'
  | _ => exact False.elim h
end
end Mi
/-! Mi8: names, displays, what is walked, comprehensions. -/
namespace Mi
open PySem L2

def mVar (i : Nat) : M D := fun ρ st => match ρ[i]? with
  | some (some d) => .ok d st
  | _ => .no
def mC (d : D) : M D := fun _ st => .ok d st
def mTup (a : M (List D)) : M D := fun ρ st => (a ρ st).bind mkT
def mLst (m : Bool) (a : M (List D)) : M D := fun ρ st => (a ρ st).bind (mkL m)
def mkD (b : Bool) (ds : List (Key × D)) (st : Store) : O D := if ds.length ≤ sizeLine then (if b = true then .ok (.ref st.length) (st ++ [.dct ds]) else .ok (.dct ds) st) else .no
section
variable {C : Cf} {X : Cx} {μ : Mu} {st : Store} {H : Hp} {W : WX}
theorem td_var {i : Nat} {σ : L2.St} {Q : VK} (h : TD C W (mVar i) σ H Q) : tVar i σ H Q := by
  obtain ⟨μ, ρ, st, R, E, h⟩ := h
  unfold mVar at h
  split at h
  · rename_i d e
    obtain ⟨v, h1, h2⟩ := E.at_ i d e
    exact ⟨v, h1, Post.now R h h2⟩
  · exact False.elim h
theorem td_c {d : D} {v : V} (hd : ∀ n μ H, Dat C.K n μ H v d) {σ : L2.St} {Q : VK} (h : TD C W (mC d) σ H Q) : tC v σ H Q := by
  obtain ⟨μ, ρ, st, R, E, h⟩ := h
  exact Post.now R h (hd _ _ _)
theorem td_tup {a : M (List D)} {σ : L2.St} {Q : VK} (h : TD C W (mTup a) σ H Q) : tTup (TDA C W a) σ H Q := by
  obtain ⟨μ, ρ, st, R, E, h⟩ := h
  refine ⟨μ, ρ, st, R, E, (Post.bind (R := DatL) h).imp fun vs H1 ⟨x, st1, μ1, _, e1, R1, d1, h1⟩ => ?_⟩
  exact ⟨by rw [d1.length]; exact mkT_len h1, fun p hp => newT R1 h1 d1 hp⟩
theorem td_lst {m : Bool} {a : M (List D)} {σ : L2.St} {Q : VK} (h : TD C W (mLst m a) σ H Q) : tLst (TDA C W a) σ H Q := by
  obtain ⟨μ, ρ, st, R, E, h⟩ := h
  refine ⟨μ, ρ, st, R, E, (Post.bind (R := DatL) h).imp fun vs H1 ⟨x, st1, μ1, _, e1, R1, d1, h1⟩ => ?_⟩
  exact ⟨by rw [d1.length]; exact mkL_len h1, fun p hp => newL R1 h1 d1 hp⟩
theorem newD {b : Bool} {ds : List (Key × D)} {vs : List (Key × V)} {σ : L2.St} {Q : VK} (R : C.Rel μ st H) (h : Post C Dat W σ Q st.length μ H (mkD b ds st)) (hs : DatK C.K st.length μ H vs ds) {p : Addr} (hp : H p = none) : Q (.ref p) (upd H p (.dK vs)) := by
  have hl : ds.length ≤ sizeLine := by
    unfold mkD at h
    split at h
    · assumption
    · exact False.elim h
  unfold mkD at h
  rw [if_pos hl] at h
  cases b with
  | true =>
    have h' : Post C Dat W σ Q st.length μ H (.ok (.ref st.length) (st ++ [.dct ds])) := h
    have el : (st ++ [Ob.dct ds]).length = st.length + 1 := by simp
    have E := R.ext_new (o := .dK vs) hp
    refine h' (.ref p) (mset μ st.length p) _ (by rw [el]; exact E) (R.alloc hp (fun _ z => by cases z) (fun _ _ z => by cases z) ⟨vs, upd_same, hs.ext E, hl⟩) ?_
    rw [el]
    have z : Dat C.K (st.length + 1) (mset μ st.length p) (upd H p (.dK vs)) (.ref (mset μ st.length p st.length)) (.ref st.length) := .ref (Nat.lt_succ_self _)
    rw [mset_at] at z
    exact z
  | false =>
    have h' : Post C Dat W σ Q st.length μ H (.ok (.dct ds) st) := h
    obtain ⟨E, nl⟩ := R.fresh (o := .dK vs) hp
    exact h' (.ref p) μ _ E (R.upd hp) (.dct upd_same nl hl (hs.ext E))
theorem td_dnew {m : Bool} {σ : L2.St} {Q : VK} (h : TD C W (fun _ st => mkD m [] st) σ H Q) : tDNewK σ H Q := by
  obtain ⟨μ, ρ, st, R, E, h⟩ := h
  exact fun p hp => newD R h .nil hp
end

/-! ### what is walked -/
/-- what is walked: the items; objects of the store that must stay as they are meanwhile -/
structure Src where
  ds : List D
  g : List (Nat × Ob)
open Classical in
noncomputable def guard (g : List (Nat × Ob)) (st : Store) : Bool := decide (∀ p ∈ g, st[p.1]? = some p.2)
theorem guard_nil (st : Store) : guard [] st = true := by unfold guard; simp
theorem guard_one {i : Nat} {o : Ob} {st : Store} : guard [(i, o)] st = true ↔ st[i]? = some o := by unfold guard; simp
theorem guard_iff {g : List (Nat × Ob)} {st : Store} : guard g st = true ↔ ∀ p ∈ g, st[p.1]? = some p.2 := by unfold guard; simp
theorem guard_app {g h : List (Nat × Ob)} {st : Store} : guard (g ++ h) st = true ↔ guard g st = true ∧ guard h st = true := by
  rw [guard_iff, guard_iff, guard_iff]
  constructor
  · exact fun z => ⟨fun p hp => z p (List.mem_append_left _ hp), fun p hp => z p (List.mem_append_right _ hp)⟩
  · rintro ⟨a, b⟩ p hp
    rcases List.mem_append.mp hp with q | q
    · exact a p q
    · exact b p q
structure Wk (C : Cf) (J : It) (s : Src) (n : Nat) (μ : Mu) (H : Hp) : Prop where
  stop : ∀ (st1 : Store) (μ1 : Mu) (H1 : Hp), Ext n μ H st1.length μ1 H1 → C.Rel μ1 st1 H1 → guard s.g st1 = true → J.stop s.ds.length H1
  go : ∀ (st1 : Store) (μ1 : Mu) (H1 : Hp), Ext n μ H st1.length μ1 H1 → C.Rel μ1 st1 H1 → guard s.g st1 = true → ∀ (i : Nat), i < s.ds.length → J.go i H1
  yld : ∀ (st1 : Store) (μ1 : Mu) (H1 : Hp), Ext n μ H st1.length μ1 H1 → C.Rel μ1 st1 H1 → guard s.g st1 = true → ∀ (i : Nat) (d : D) (x : V) (H2 : Hp), s.ds[i]? = some d → J.yld i H1 x H2 →
    Ext st1.length μ1 H1 st1.length μ1 H2 ∧ C.Rel μ1 st1 H2 ∧ Dat C.K st1.length μ1 H2 x d
abbrev RI (C : Cf) : RelT Src It := fun _ n μ H J s => Wk C J s n μ H ∧ s.ds.length ≤ sizeLine
abbrev TDI (C : Cf) (W : WX) (m : M Src) : TI := TDg C (RI C) W m
/-- a list that can be walked: its items; what must stay -/
def listG (st : Store) : D → Option Src
  | .lst xs => some ⟨xs, []⟩
  | .frz xs => some ⟨xs, []⟩
  | .ref i => match st[i]? with
    | some (.lst xs) => some ⟨xs, [(i, .lst xs)]⟩
    | _ => none
  | _ => none
/-- while it stays the list is there -/
def Kept (C : Cf) (a : Addr) (s : Src) (n : Nat) (μ : Mu) (H : Hp) : Prop := ∀ (st1 : Store) (μ1 : Mu) (H1 : Hp), Ext n μ H st1.length μ1 H1 → C.Rel μ1 st1 H1 → guard s.g st1 = true → ∃ vs, SqL C.K H1 a vs ∧ DatL C.K st1.length μ1 H1 vs s.ds
section
variable {C : Cf} {X : Cx} {μ : Mu} {n : Nat} {st : Store} {H : Hp} {W : WX}
theorem list_kept (R : C.Rel μ st H) {v : V} {d : D} {s : Src} (h : Dat C.K st.length μ H v d) (e : listG st d = some s) : ∃ a vs, v = .ref a ∧ SqL C.K H a vs ∧ s.ds.length ≤ sizeLine ∧ Kept C a s st.length μ H := by
  cases h with
  | frz h hl hs =>
    cases e
    refine ⟨_, _, rfl, h.sq, hl, fun st1 μ1 H1 e R1 _ => ⟨_, ?_, hs.ext e⟩⟩
    rcases h with ⟨⟨o, h⟩, nl⟩ | h
    · exact .inl (.inr ⟨_, e.keep _ _ h nl⟩)
    · exact .inr h
  | lst h nl hl hs => cases e; exact ⟨_, _, rfl, .of h, hl, fun st1 μ1 H1 e R1 _ => ⟨_, .of (e.keep _ _ h nl), hs.ext e⟩⟩
  | @ref i hi =>
    have e' : (match st[i]? with | some (.lst xs) => some (⟨xs, [(i, .lst xs)]⟩ : Src) | _ => none) = some s := e
    cases q : st[i]? with
    | none => rw [q] at e'; cases e'
    | some o =>
      rw [q] at e'
      cases o with
      | lst ys =>
        cases e'
        obtain ⟨vs, h1, h2, h3⟩ := R.obj i _ q
        refine ⟨_, vs, rfl, .of h1, h3, fun st1 μ1 H1 e R1 hg => ?_⟩
        obtain ⟨vs1, h4, h5, h6⟩ := R1.obj i _ (guard_one.mp hg)
        exact ⟨vs1, .of (by rw [← e.mu i hi]; exact h4), h5⟩
      | dct _ => cases e'
      | ins _ _ => cases e'
      | lck _ => cases e'
  | _ => cases e
theorem wk_list {a : Addr} {s : Src} (hk : Kept C a s n μ H) : Wk C (Itl C.K a) s n μ H where
  stop := fun st1 μ1 H1 e R hg => by
    obtain ⟨vs, h1, h2⟩ := hk st1 μ1 H1 e R hg
    exact ⟨vs, h1, by rw [h2.length]; exact Nat.le_refl _⟩
  go := fun st1 μ1 H1 e R hg i hi => by
    obtain ⟨vs, h1, h2⟩ := hk st1 μ1 H1 e R hg
    exact ⟨vs, vs[i]'(by rw [h2.length]; exact hi), h1, List.getElem?_eq_getElem _⟩
  yld := fun st1 μ1 H1 e R hg i d x H2 hd hy => by
    obtain ⟨vs, h1, h2⟩ := hk st1 μ1 H1 e R hg
    obtain ⟨rfl, hy⟩ := hy
    have hx := hy vs h1
    obtain ⟨d', h3, h4⟩ := h2.get' hx
    rw [hd] at h3
    cases h3
    exact ⟨Ext.refl, R, h4⟩
theorem wk_tup {a : Addr} {vs : List V} {ds : List D} (hs : DatL C.K n μ H vs ds) (hT : SqT C.K H a vs) : Wk C (Itt C.K a) ⟨ds, []⟩ n μ H where
  stop := fun st1 μ1 H1 e R hg => ⟨vs, e.sqT hT, by rw [hs.length]; exact Nat.le_refl _⟩
  go := fun st1 μ1 H1 e R hg i hi => ⟨vs, vs[i]'(by rw [hs.length]; exact hi), e.sqT hT, List.getElem?_eq_getElem _⟩
  yld := fun st1 μ1 H1 e R hg i d x H2 hd hy => by
    obtain ⟨rfl, hy⟩ := hy
    have hx := hy vs (e.sqT hT)
    obtain ⟨d', h1, h2⟩ := hs.get' hx
    have hd : ds[i]? = some d := hd
    rw [hd] at h1
    cases h1
    exact ⟨Ext.refl, R, h2.ext e⟩
theorem wk_str {s : Str} (ok : PyData.strOk s = true) : Wk C (Its s) ⟨s.cps.toList.map fun c => D.str ⟨#[c]⟩, []⟩ n μ H where
  stop := fun st1 μ1 H1 e R hg => by show s.cps.size ≤ _; simp
  go := fun st1 μ1 H1 e R hg i hi => by
    show i < s.cps.size
    simpa using hi
  yld := fun st1 μ1 H1 e R hg i d x H2 hd hy => by
    obtain ⟨rfl, c, hc, rfl⟩ := hy
    have hd : (s.cps.toList.map fun c => D.str ⟨#[c]⟩)[i]? = some d := hd
    rw [List.getElem?_map] at hd
    have hc' : s.cps.toList[i]? = some c := by simpa using hc
    rw [hc'] at hd
    cases hd
    exact ⟨Ext.refl, R, .str (by show 1 ≤ _; decide) (strOk_list (l := [c]) (by simpa using strOk_mem ok (List.mem_of_getElem? hc')))⟩
def rangeD (lo : Int) (k : Nat) : List D := (List.range k).map fun (i : Nat) => D.int (lo + (i : Int))
theorem rangeD_len (lo : Int) (k : Nat) : (rangeD lo k).length = k := by simp [rangeD]
theorem wk_range {lo : Int} {k : Nat} : Wk C (Itr lo k) ⟨rangeD lo k, []⟩ n μ H where
  stop := fun st1 μ1 H1 e R hg => by show k ≤ (rangeD lo k).length; rw [rangeD_len]; exact Nat.le_refl _
  go := fun st1 μ1 H1 e R hg i hi => by
    have hi : i < (rangeD lo k).length := hi
    show i < k; rw [rangeD_len] at hi; exact hi
  yld := fun st1 μ1 H1 e R hg i d x H2 hd hy => by
    obtain ⟨rfl, rfl⟩ := hy
    have hd : (rangeD lo k)[i]? = some d := hd
    have hi : i < k := by
      have := (List.getElem?_eq_some_iff.mp hd).1
      rw [rangeD_len] at this; exact this
    unfold rangeD at hd
    rw [List.getElem?_map, List.getElem?_range hi] at hd
    cases hd
    exact ⟨Ext.refl, R, .int _⟩
/-- a new tuple at each turn -/
theorem new_pair {st1 : Store} {μ1 : Mu} {H1 : Hp} (R : C.Rel μ1 st1 H1) {T : Addr} (hT : H1 T = none) {x y : V} {a b : D} (hx : Dat C.K st1.length μ1 H1 x a) (hy : Dat C.K st1.length μ1 H1 y b) :
    Ext st1.length μ1 H1 st1.length μ1 (upd H1 T (.tup [x, y])) ∧ C.Rel μ1 st1 (upd H1 T (.tup [x, y])) ∧ Dat C.K st1.length μ1 (upd H1 T (.tup [x, y])) (.ref T) (.tup [a, b]) := by
  obtain ⟨E, nl⟩ := R.fresh (o := .tup [x, y]) hT
  exact ⟨E, R.upd hT, .tup (.of upd_same) (by show 2 ≤ _; decide) (.cons (hx.ext E) (.cons (hy.ext E) .nil))⟩
def enumD (ds : List D) : List D := (List.range ds.length).zipWith (fun (i : Nat) d => D.tup [.int (i : Int), d]) ds
theorem enumD_len (ds : List D) : (enumD ds).length = ds.length := by simp [enumD]
theorem enumD_get {ds : List D} {i : Nat} {d : D} (h : (enumD ds)[i]? = some d) : ∃ x, ds[i]? = some x ∧ d = .tup [.int (i : Int), x] := by
  have hi := (List.getElem?_eq_some_iff.mp h).1
  rw [enumD_len] at hi
  unfold enumD at h
  rw [List.getElem?_zipWith, List.getElem?_range hi, List.getElem?_eq_getElem hi] at h
  exact ⟨_, List.getElem?_eq_getElem hi, (Option.some.inj h).symm⟩
theorem wk_enum {a : Addr} {s : Src} (hk : Kept C a s n μ H) : Wk C (Ite C.K a) ⟨enumD s.ds, s.g⟩ n μ H where
  stop := fun st1 μ1 H1 e R hg => by
    obtain ⟨vs, h1, h2⟩ := hk st1 μ1 H1 e R hg
    exact ⟨vs, h1, by show _ ≤ (enumD s.ds).length; rw [h2.length, enumD_len]; exact Nat.le_refl _⟩
  go := fun st1 μ1 H1 e R hg i hi => by
    obtain ⟨vs, h1, h2⟩ := hk st1 μ1 H1 e R hg
    have hi : i < (enumD s.ds).length := hi
    exact ⟨vs, vs[i]'(by rw [h2.length, ← enumD_len]; exact hi), h1, List.getElem?_eq_getElem _⟩
  yld := fun st1 μ1 H1 e R hg i d x H2 hd hy => by
    obtain ⟨vs, h1, h2⟩ := hk st1 μ1 H1 e R hg
    obtain ⟨T, y, rfl, hT, rfl, hy⟩ := hy
    have hx := hy vs h1
    obtain ⟨d', h3, h4⟩ := h2.get' hx
    obtain ⟨z, hz, rfl⟩ := enumD_get (ds := s.ds) hd
    rw [hz] at h3
    cases h3
    exact new_pair R hT (.int _) h4
def zipD (ds es : List D) : List D := ds.zipWith (fun a b => D.tup [a, b]) es
theorem wk_zip {a b : Addr} {s r : Src} (hk : Kept C a s n μ H) (hk' : Kept C b r n μ H) : Wk C (Itz C.K a b) ⟨zipD s.ds r.ds, s.g ++ r.g⟩ n μ H where
  stop := fun st1 μ1 H1 e R hg => by
    obtain ⟨g1, g2⟩ := guard_app.mp hg
    obtain ⟨vs, h1, h2⟩ := hk st1 μ1 H1 e R g1
    obtain ⟨us, h3, h4⟩ := hk' st1 μ1 H1 e R g2
    refine ⟨vs, us, h1, h3, ?_⟩
    have : (zipD s.ds r.ds).length = min s.ds.length r.ds.length := by simp [zipD]
    show _ ≤ (zipD s.ds r.ds).length ∨ _ ≤ (zipD s.ds r.ds).length
    rw [this, h2.length, h4.length]; omega
  go := fun st1 μ1 H1 e R hg i hi => by
    obtain ⟨g1, g2⟩ := guard_app.mp hg
    obtain ⟨vs, h1, h2⟩ := hk st1 μ1 H1 e R g1
    obtain ⟨us, h3, h4⟩ := hk' st1 μ1 H1 e R g2
    have : (zipD s.ds r.ds).length = min s.ds.length r.ds.length := by simp [zipD]
    have hi : i < (zipD s.ds r.ds).length := hi
    rw [this] at hi
    exact ⟨vs, us, vs[i]'(by rw [h2.length]; omega), us[i]'(by rw [h4.length]; omega), h1, h3, List.getElem?_eq_getElem _, List.getElem?_eq_getElem _⟩
  yld := fun st1 μ1 H1 e R hg i d x H2 hd hy => by
    obtain ⟨g1, g2⟩ := guard_app.mp hg
    obtain ⟨vs, q1, q2⟩ := hk st1 μ1 H1 e R g1
    obtain ⟨us, q3, q4⟩ := hk' st1 μ1 H1 e R g2
    obtain ⟨T, y, z, rfl, hT, rfl, hy, hz⟩ := hy
    obtain ⟨d1, h1, h2⟩ := q2.get' (hy vs q1)
    obtain ⟨d2, h3, h4⟩ := q4.get' (hz us q3)
    have hd : (zipD s.ds r.ds)[i]? = some d := hd
    unfold zipD at hd
    rw [List.getElem?_zipWith, h1, h3] at hd
    cases hd
    exact new_pair R hT h2 h4

theorem wk_zipT {a b : Addr} {vs us : List V} {ds es : List D} (hs : DatL C.K n μ H vs ds) (ht : DatL C.K n μ H us es) (hT : SqT C.K H a vs) (hT' : SqT C.K H b us) : Wk C (RZ.ItzT C.K a b) ⟨zipD ds es, []⟩ n μ H where
  stop := fun st1 μ1 H1 e R hg => by
    refine ⟨vs, us, e.sqT hT, e.sqT hT', ?_⟩
    have : (zipD ds es).length = min ds.length es.length := by simp [zipD]
    show _ ≤ (zipD ds es).length ∨ _ ≤ (zipD ds es).length
    rw [this, hs.length, ht.length]; omega
  go := fun st1 μ1 H1 e R hg i hi => by
    have : (zipD ds es).length = min ds.length es.length := by simp [zipD]
    have hi : i < (zipD ds es).length := hi
    rw [this] at hi
    exact ⟨vs, us, vs[i]'(by rw [hs.length]; omega), us[i]'(by rw [ht.length]; omega), e.sqT hT, e.sqT hT', List.getElem?_eq_getElem _, List.getElem?_eq_getElem _⟩
  yld := fun st1 μ1 H1 e R hg i d x H2 hd hy => by
    obtain ⟨T, y, z, rfl, hN, rfl, hy, hz⟩ := hy
    obtain ⟨d1, h1, h2⟩ := hs.get' (hy vs (e.sqT hT))
    obtain ⟨d2, h3, h4⟩ := ht.get' (hz us (e.sqT hT'))
    have hd : (zipD ds es)[i]? = some d := hd
    unfold zipD at hd
    rw [List.getElem?_zipWith, h1, h3] at hd
    cases hd
    exact new_pair R hN (h2.ext e) (h4.ext e)

/-- the items of a thing, and what must stay -/
def itemsD (st : Store) : D → Option Src
  | .tup xs => some ⟨xs, []⟩
  | .str s => some ⟨s.cps.toList.map fun c => D.str ⟨#[c]⟩, []⟩
  | d => listG st d
def mItems (a : M D) : M Src := fun ρ st => (a ρ st).bind fun d st1 => match itemsD st1 d with
  | some xs => .ok xs st1
  | none => .no
theorem pi_itemsD (hK : X.K = C.K) {tg e : Expr} {m : M D} (he : PE X e (TD C W m)) : PI X tg e (TDI C W (mItems m)) := by
  refine PI.choose fun σ H Q h => ?_
  have h0 := h
  obtain ⟨μ, ρ, st, R, E, h⟩ := h
  unfold mItems at h
  cases q : m ρ st with
  | no => rw [q] at h; exact False.elim h
  | ex x st1 =>
    refine ⟨_, pi_list he, μ, ρ, st, R, E, ?_⟩
    rw [q] at h ⊢
    exact h
  | ok d st1 =>
    rw [q] at h
    have h : Post C (RI C) W σ Q st.length μ H (match itemsD st1 d with | some xs => .ok xs st1 | none => .no) := h
    have fin : ∀ {K : TE → TI} (hp : PI X tg e (K (TD C W m))) (G : VK), (∀ v μ' H', Ext st.length μ H st1.length μ' H' → C.Rel μ' st1 H' → Dat C.K st1.length μ' H' v d → G v H') → ((TD C W m) σ H G → K (TD C W m) σ H Q) → ∃ t, PI X tg e t ∧ t σ H Q := fun hp G hG hk =>
      ⟨_, hp, hk ⟨μ, ρ, st, R, E, by rw [q]; exact hG⟩⟩
    have lists : Post C (RI C) W σ Q st.length μ H (match listG st1 d with | some xs => .ok xs st1 | none => .no) → ∃ t, PI X tg e t ∧ t σ H Q := fun h => by
      cases qq : listG st1 d with
      | none => rw [qq] at h; exact False.elim h
      | some s =>
        rw [qq] at h
        refine fin (K := iList X.K) (pi_list he) _ (fun v μ' H' e1 R1 d1 => ?_) id
        obtain ⟨a, vs, rfl, hv, hl, hk⟩ := list_kept R1 d1 qq
        refine ⟨a, rfl, ⟨vs, by rw [hK]; exact hv⟩, ?_⟩
        rw [hK]
        exact h (Itl C.K a) μ' H' e1 R1 ⟨wk_list hk, hl⟩
    cases d with
    | tup xs =>
      refine fin (K := iTup X.K) (pi_tup he) _ (fun v μ' H' e1 R1 d1 => ?_) id
      cases d1 with
      | @tup a vs _ hT hl hs =>
        refine ⟨a, rfl, ⟨vs, by rw [hK]; exact hT⟩, ?_⟩
        rw [hK]
        exact h (Itt C.K a) μ' H' e1 R1 ⟨wk_tup hs hT, hl⟩
    | str s =>
      refine fin (K := iStr) (pi_str he) _ (fun v μ' H' e1 R1 d1 => ?_) id
      cases d1 with
      | str hl ok => exact ⟨s, rfl, h (Its s) μ' H' e1 R1 ⟨wk_str ok, by show (s.cps.toList.map _).length ≤ _; rw [List.length_map, Array.length_toList]; exact hl⟩⟩
    | _ => exact lists h
def mRange1 (a : M D) : M Src := fun ρ st => (a ρ st).bind fun d st1 => match d with
  | .int j => if j ≤ sizeLine ∧ -(2 ^ 62) ≤ j then .ok ⟨rangeD 0 j.toNat, []⟩ st1 else .no
  | _ => .no
def mRange2 (a b : M D) : M Src := fun ρ st => (a ρ st).bind fun d st1 => (b ρ st1).bind fun e st2 => match d, e with
  | .int i, .int j => if -(2 ^ 62) ≤ i ∧ i < 2 ^ 62 ∧ -(2 ^ 62) ≤ j ∧ j < 2 ^ 62 ∧ j - i ≤ sizeLine then .ok ⟨rangeD i (j - i).toNat, []⟩ st2 else .no
  | _, _ => .no
/-- a list that stays, walked with numbers -/
def mEnum (a : M D) : M Src := fun ρ st => (a ρ st).bind fun d st1 => match listG st1 d with
  | some s => .ok ⟨enumD s.ds, s.g⟩ st1
  | none => .no
def zipS (st : Store) (a b : D) : Option Src := match a, b with
  | .tup xs, .tup ys => some ⟨zipD xs ys, []⟩
  | a, b => match listG st a, listG st b with
    | some s, some r => some ⟨zipD s.ds r.ds, s.g ++ r.g⟩
    | _, _ => none
/-- two lists, or two tuples -/
def mZip (a b : M D) : M Src := fun ρ st => (a ρ st).bind fun d st1 => (b ρ st1).bind fun e st2 => match zipS st2 d e with
  | some s => .ok s st2
  | none => .no
theorem td_args1 {a : M D} {k : V → Hp → Prop} {σ : L2.St} {H : Hp} (h : TD C W a σ H k) : TDA C W (mCons a mNil) σ H fun vs H1 => ∃ v, vs = [v] ∧ k v H1 := by
  obtain ⟨μ, ρ, st, R, E, h⟩ := h
  refine ⟨μ, ρ, st, R, E, ?_⟩
  unfold mCons mNil
  cases q : a ρ st with
  | no => rw [q] at h; exact h
  | ex x st1 => rw [q] at h; exact h
  | ok d st1 =>
    rw [q] at h
    intro vs μ' H' e R1 dl
    cases dl with
    | cons d1 d2 =>
      cases d2
      exact ⟨_, rfl, h _ μ' H' e R1 d1⟩
theorem td_args2 {a b : M D} {k : V → V → Hp → Prop} {σ : L2.St} {H : Hp} (h : TD C W a σ H fun x H1 => TD C W b σ H1 fun y H2 => k x y H2) : tCons (TD C W a) (tCons (TD C W b) tNil) σ H fun vs H1 => ∃ v w, vs = [v, w] ∧ k v w H1 := by
  obtain ⟨μ, ρ, st, R, E, h⟩ := h
  refine ⟨μ, ρ, st, R, E, h.imp fun v H1 h1 => ?_⟩
  obtain ⟨μ, ρ, st, R, E, h⟩ := h1
  exact ⟨μ, ρ, st, R, E, h.imp fun w H2 h2 => ⟨v, w, rfl, h2⟩⟩
theorem td_args1' {a : M D} {k : V → Hp → Prop} {σ : L2.St} {H : Hp} (h : TD C W a σ H k) : tCons (TD C W a) tNil σ H fun vs H1 => ∃ v, vs = [v] ∧ k v H1 := by
  obtain ⟨μ, ρ, st, R, E, h⟩ := h
  exact ⟨μ, ρ, st, R, E, h.imp fun v H1 h1 => ⟨v, rfl, h1⟩⟩
end
section
variable {C : Cf} {X : Cx} {W : WX}
theorem tCons_mono {ta : TE} {Q Q' : List V → Hp → Prop} {σ : L2.St} {H : Hp} {a : M D} (h : tCons (TD C W a) tNil σ H Q) (hq : ∀ vs H1, Q vs H1 → Q' vs H1) : tCons (TD C W a) tNil σ H Q' := by
  obtain ⟨μ, ρ, st, R, E, h⟩ := h
  exact ⟨μ, ρ, st, R, E, h.imp fun v H1 h1 => hq _ _ h1⟩
theorem pi_rangeD1 {tg a : Expr} {p pos : Pos} {m : M D} (hg : Gl X "range") (hm : X.mg "range" = none) (ha : PE X a (TD C W m)) (hs : starEach [a] X.env = [(false, eval a X.env)]) : PI X tg (.Call (.Name "range" p) [a] [] pos) (TDI C W (mRange1 m)) := by
  refine PI.choose fun σ H Q h => ⟨_, pi_range1 hg hm (pa_cons ha pa_nil hs) hs, ?_⟩
  obtain ⟨μ, ρ, st, R, E, h⟩ := h
  refine ⟨μ, ρ, st, R, E, (Post.bind (R := Dat) h).imp fun v H1 ⟨x, st1, μ1, _, e1, R1, d1, h1⟩ => ?_⟩
  cases d1 with
  | int j =>
    have h1 : Post C (RI C) W σ Q st1.length μ1 H1 (if j ≤ sizeLine ∧ -(2 ^ 62) ≤ j then .ok ⟨rangeD 0 j.toNat, []⟩ st1 else .no) := h1
    split at h1
    · rename_i hc
      have : (sizeLine : Int) < 2 ^ 62 := by decide
      exact ⟨j, rfl, hc.2, by omega, h1 (Itr 0 j.toNat) μ1 H1 Ext.refl R1 ⟨wk_range, by show (rangeD 0 j.toNat).length ≤ _; rw [rangeD_len]; omega⟩⟩
    · exact False.elim h1
  | _ => exact False.elim h1
theorem pi_rangeD2 {tg a b : Expr} {p pos : Pos} {m m' : M D} (hg : Gl X "range") (hm : X.mg "range" = none) (ha : PE X a (TD C W m)) (hb : PE X b (TD C W m')) (hs : starEach [a, b] X.env = [(false, eval a X.env), (false, eval b X.env)]) (hs2 : starEach [b] X.env = [(false, eval b X.env)]) :
    PI X tg (.Call (.Name "range" p) [a, b] [] pos) (TDI C W (mRange2 m m')) := by
  refine PI.choose fun σ H Q h => ⟨_, pi_range2 hg hm (pa_cons ha (pa_cons hb pa_nil hs2) (by rw [hs, hs2])) hs hs2, ?_⟩
  obtain ⟨μ, ρ, st, R, E, h⟩ := h
  refine ⟨μ, ρ, st, R, E, (Post.bind (R := Dat) h).imp fun v H1 ⟨x, st1, μ1, _, e1, R1, d1, h1⟩ => ?_⟩
  refine ⟨μ1, ρ, st1, R1, E.ext e1, (Post.bind (R := Dat) h1).imp fun w H2 ⟨y, st2, μ2, _, e2, R2, d2, h2⟩ => ?_⟩
  cases d1 with
  | int i =>
    cases d2 with
    | int j =>
      have h2 : Post C (RI C) W σ Q st2.length μ2 H2 (if -(2 ^ 62) ≤ i ∧ i < 2 ^ 62 ∧ -(2 ^ 62) ≤ j ∧ j < 2 ^ 62 ∧ j - i ≤ sizeLine then .ok ⟨rangeD i (j - i).toNat, []⟩ st2 else .no) := h2
      split at h2
      · rename_i hc
        exact ⟨i, j, rfl, ⟨hc.1, hc.2.1, hc.2.2.1, hc.2.2.2.1⟩, h2 (Itr i (j - i).toNat) μ2 H2 Ext.refl R2 ⟨wk_range, by show (rangeD i (j - i).toNat).length ≤ _; rw [rangeD_len]; omega⟩⟩
      · exact False.elim h2
    | _ => exact False.elim h2
  | _ => exact False.elim h2
theorem pi_enumD (hK : X.K = C.K) {e : Expr} {p pos tpos : Pos} {elts : List Expr} {kk : Nat} {m : M D} (hg : Gl X "enumerate") (hm : X.mg "enumerate" = none) (ha : PE X e (TD C W m)) (hs : starEach [e] X.env = [(false, eval e X.env)]) :
    PI X (.Tuple elts kk tpos) (.Call (.Name "enumerate" p) [e] [] pos) (TDI C W (mEnum m)) := by
  refine PI.choose fun σ H Q h => ⟨_, pi_enum hg hm (pa_cons ha pa_nil hs) hs, ?_⟩
  obtain ⟨μ, ρ, st, R, E, h⟩ := h
  refine ⟨μ, ρ, st, R, E, (Post.bind (R := Dat) h).imp fun v H1 ⟨x, st1, μ1, _, e1, R1, d1, h1⟩ => ?_⟩
  cases q : listG st1 x with
  | none => simp only [q] at h1; exact False.elim h1
  | some s =>
    simp only [q] at h1
    obtain ⟨a, vs, rfl, hv, hl, hk⟩ := list_kept R1 d1 q
    refine ⟨a, vs, rfl, by rw [hK]; exact hv, ?_⟩
    rw [hK]
    exact h1 (Ite C.K a) μ1 H1 Ext.refl R1 ⟨wk_enum hk, by show (enumD s.ds).length ≤ _; rw [enumD_len]; exact hl⟩
theorem pi_zipD (hK : X.K = C.K) {e e2 : Expr} {p pos tpos : Pos} {elts : List Expr} {kk : Nat} {m m' : M D} (hg : Gl X "zip") (hm : X.mg "zip" = none) (ha : PE X e (TD C W m)) (hb : PE X e2 (TD C W m'))
    (hs : starEach [e, e2] X.env = (false, eval e X.env) :: starEach [e2] X.env) (hs2 : starEach [e2] X.env = [(false, eval e2 X.env)]) :
    PI X (.Tuple elts kk tpos) (.Call (.Name "zip" p) [e, e2] [] pos) (TDI C W (mZip m m')) := by
  refine PI.choose fun σ H Q h => ⟨_, RZ.pi_zipA hg hm (pa_cons ha (pa_cons hb pa_nil hs2) hs) hs (by rw [hs2]; rfl), ?_⟩
  obtain ⟨μ, ρ, st, R, E, h⟩ := h
  refine ⟨μ, ρ, st, R, E, (Post.bind (R := Dat) h).imp fun v H1 ⟨x, st1, μ1, _, e1, R1, d1, h1⟩ => ?_⟩
  refine ⟨μ1, ρ, st1, R1, E.ext e1, (Post.bind (R := Dat) h1).imp fun w H2 ⟨y, st2, μ2, _, e2, R2, d2, h2⟩ => ?_⟩
  have lists : Post C (RI C) W σ Q st2.length μ2 H2 (match (match listG st2 x, listG st2 y with
      | some s, some r => some (⟨zipD s.ds r.ds, s.g ++ r.g⟩ : Src)
      | _, _ => none) with | some s => .ok s st2 | none => .no) → ∃ a b xs ys, [v, w] = [V.ref a, .ref b] ∧ ((SqL X.K H2 a xs ∧ SqL X.K H2 b ys ∧ Q (Itz X.K a b) H2) ∨ (SqT X.K H2 a xs ∧ SqT X.K H2 b ys ∧ Q (RZ.ItzT X.K a b) H2)) := fun h2 => by
    cases q : listG st2 x with
    | none => simp only [q] at h2; exact False.elim h2
    | some s =>
      cases q2 : listG st2 y with
      | none => simp only [q, q2] at h2; exact False.elim h2
      | some r =>
        simp only [q, q2] at h2
        obtain ⟨a, vs, rfl, hv, hl, hk⟩ := list_kept R2 (d1.ext e2) q
        obtain ⟨b, us, rfl, hv', hl', hk'⟩ := list_kept R2 d2 q2
        refine ⟨a, b, vs, us, rfl, .inl ⟨by rw [hK]; exact hv, by rw [hK]; exact hv', ?_⟩⟩
        rw [hK]
        refine h2 (Itz C.K a b) μ2 H2 Ext.refl R2 ⟨wk_zip hk hk', ?_⟩
        have : (zipD s.ds r.ds).length = min s.ds.length r.ds.length := by simp [zipD]
        show (zipD s.ds r.ds).length ≤ _
        rw [this]; omega
  have d1' := d1.ext e2
  cases d1' with
  | @tup a vs xs hT hl hs =>
    cases d2 with
    | @tup b us ys hT' hl' hs' =>
      refine ⟨a, b, vs, us, rfl, .inr ⟨by rw [hK]; exact hT, by rw [hK]; exact hT', ?_⟩⟩
      rw [hK]
      refine h2 (RZ.ItzT C.K a b) μ2 H2 Ext.refl R2 ⟨wk_zipT hs hs' hT hT', ?_⟩
      have : (zipD xs ys).length = min xs.length ys.length := by simp [zipD]
      show (zipD xs ys).length ≤ _
      rw [this]; omega
    | _ => exact lists h2
  | _ => exact lists h2
end
end Mi
/-! Mi9: targets, comprehensions. -/
namespace Mi
open PySem L2

inductive Tgt where
  | one (i : Nat) | many (is : List Nat)
def setD : List Nat → List D → Rho → Rho
  | i :: is, d :: ds, ρ => setD is ds (ρ.set i (some d))
  | _, _, ρ => ρ
def setV : List Nat → List V → L2.St → L2.St
  | i :: is, v :: vs, σ => setV is vs (σ.set i (some v))
  | _, _, σ => σ
def bindT : Tgt → D → Rho → Option Rho
  | .one i, d, ρ => some (ρ.set i (some d))
  | .many is, .tup ds, ρ => if ds.length = is.length then some (setD is ds ρ) else none
  | .many is, .lst ds, ρ => if ds.length = is.length then some (setD is ds ρ) else none
  | .many is, .frz ds, ρ => if ds.length = is.length then some (setD is ds ρ) else none
  | .many _, _, _ => none
/-- (a, b, ..) = a tuple or a list -/
def gSeqT (K : PySem.W.Frag) (n : Nat) (t : TGs) : TG := fun v σ H Q => gTup K n t v σ H Q ∨ gUnl K n t v σ H Q
theorem pg_seqT {X : Cx} {pos : Pos} {es : List Expr} {k : Nat} {t : TGs} {n : Nat} (hc : X.calm = true) (h : PGs X es t)
    (hn : (assignEach es X.env).length = n) (hst : (assignEach es X.env).findIdx? (·.1) = none) : PG X (.Tuple es k pos) (gSeqT X.K n t) := by
  refine ⟨fun pins s σ H v u Q I r hw => ?_⟩
  rcases hw with hw | hw
  · exact (pg_tup hc h hn hst).run pins s σ H v u Q I r hw
  · exact (pg_unl hc h hn hst).run pins s σ H v u Q I r hw
def gNames : List Nat → TGs
  | [] => gNil
  | i :: is => gCons (gName i) (gNames is)
def gOf (K : PySem.W.Frag) : Tgt → TG
  | .one i => gName i
  | .many is => gSeqT K is.length (gNames is)
def Tgt.slots : Tgt → List Nat
  | .one i => [i]
  | .many is => is
/-- the slots behind a target -/
def setT : Tgt → V → List V → L2.St → L2.St
  | .one i, v, _, σ => σ.set i (some v)
  | .many is, _, vs, σ => setV is vs σ
section
variable {C : Cf} {X : Cx} {μ : Mu} {n : Nat} {st : Store} {H : Hp} {W : WX} {σ : L2.St} {ρ : Rho}
theorem EnvR.setAll : ∀ {is : List Nat} {vs : List V} {ds : List D} {σ : L2.St} {ρ : Rho}, EnvR C.K n μ H σ ρ → DatL C.K n μ H vs ds → EnvR C.K n μ H (setV is vs σ) (setD is ds ρ)
  | [], _, _, _, _, h, _ => by
    unfold setV setD
    exact h
  | i :: is, _, _, σ, ρ, h, .nil => h
  | i :: is, _, _, σ, ρ, h, .cons d t => EnvR.setAll (is := is) (h.set d i) t
theorem gNames_ok : ∀ {is : List Nat} {vs : List V} {σ : L2.St} {Q : L2.St → Hp → Prop}, vs.length = is.length → Q (setV is vs σ) H → gNames is vs σ H Q
  | [], [], σ, Q, _, h => ⟨rfl, h⟩
  | [], _ :: _, _, _, e, _ => by cases e
  | _ :: _, [], _, _, e, _ => by cases e
  | i :: is, v :: vs, σ, Q, e, h => ⟨v, vs, rfl, gNames_ok (is := is) (by simpa using e) h⟩
theorem gOf_ok (hK : X.K = C.K) {t : Tgt} {v : V} {d : D} {ρ' : Rho} {Q : L2.St → Hp → Prop} (E : EnvR C.K n μ H σ ρ) (hd : Dat C.K n μ H v d) (e : bindT t d ρ = some ρ')
    (h : ∀ vs, EnvR C.K n μ H (setT t v vs σ) ρ' → Q (setT t v vs σ) H) : gOf X.K t v σ H Q := by
  cases t with
  | one i =>
    cases e
    exact h [] (E.set hd i)
  | many is =>
    cases d with
    | tup ds =>
      have e' : (if ds.length = is.length then some (setD is ds ρ) else none) = some ρ' := e
      split at e'
      · rename_i hl
        cases e'
        cases hd with
        | @tup a vs _ hT hz hs =>
          exact .inl ⟨a, vs, rfl, by rw [hK]; exact hT, by rw [hs.length]; exact hl, gNames_ok (by rw [hs.length]; exact hl) (h vs (E.setAll hs))⟩
      · cases e'
    | lst ds =>
      have e' : (if ds.length = is.length then some (setD is ds ρ) else none) = some ρ' := e
      split at e'
      · rename_i hl
        cases e'
        cases hd with
        | @lst a vs _ hT nl hz hs =>
          exact .inr ⟨a, vs, rfl, .of hT, by rw [hs.length]; exact hl, gNames_ok (by rw [hs.length]; exact hl) (h vs (E.setAll hs))⟩
      · cases e'
    | frz ds =>
      have e' : (if ds.length = is.length then some (setD is ds ρ) else none) = some ρ' := e
      split at e'
      · rename_i hl
        cases e'
        cases hd with
        | @frz a vs _ hT hz hs =>
          exact .inr ⟨a, vs, rfl, by rw [hK]; exact hT.sq, by rw [hs.length]; exact hl, gNames_ok (by rw [hs.length]; exact hl) (h vs (E.setAll hs))⟩
      · cases e'
    | _ => cases e
/-! ### wiping -/
def wipeD (ρ : Rho) : List Nat → Rho
  | [] => ρ
  | v :: vs => (wipeD ρ vs).set v none
theorem EnvR.wipe (h : EnvR C.K n μ H σ ρ) : ∀ vs : List Nat, EnvR C.K n μ H (L2.wipe σ vs) (wipeD ρ vs)
  | [] => h
  | v :: vs => (EnvR.wipe h vs).unset v
theorem wipe_get {vs : List Nat} {σ : L2.St} {i : Nat} : (wipe σ vs)[i]? = if i ∈ vs ∧ i < σ.length then some none else σ[i]? := by
  induction vs with
  | nil => simp [wipe]
  | cons v vs ih =>
    unfold wipe
    by_cases h : v = i
    · subst h
      by_cases hl : v < σ.length
      · rw [List.getElem?_set_self (by rw [wipe_length]; exact hl), if_pos ⟨List.mem_cons_self .., hl⟩]
      · rw [if_neg (fun z => hl z.2), List.getElem?_eq_none (by rw [List.length_set, wipe_length]; omega), List.getElem?_eq_none (by omega)]
    · rw [List.getElem?_set_ne h, ih]
      have : (i ∈ vs ∧ i < σ.length) ↔ (i ∈ v :: vs ∧ i < σ.length) := by
        simp only [List.mem_cons]
        constructor
        · exact fun z => ⟨.inr z.1, z.2⟩
        · exact fun z => ⟨z.1.resolve_left (fun q => h q.symm), z.2⟩
      by_cases hc : i ∈ vs ∧ i < σ.length
      · rw [if_pos hc, if_pos (this.mp hc)]
      · rw [if_neg hc, if_neg (fun z => hc (this.mpr z))]
theorem wipe_set {vs : List Nat} {σ : L2.St} {i : Nat} {v : Option V} (hi : i ∈ vs) : wipe (σ.set i v) vs = wipe σ vs := by
  refine List.ext_getElem? fun j => ?_
  rw [wipe_get, wipe_get, List.length_set]
  by_cases hc : j ∈ vs ∧ j < σ.length
  · rw [if_pos hc, if_pos hc]
  · rw [if_neg hc, if_neg hc]
    by_cases e : i = j
    · subst e
      have : ¬ i < σ.length := fun z => hc ⟨hi, z⟩
      rw [List.getElem?_eq_none (by rw [List.length_set]; omega), List.getElem?_eq_none (by omega)]
    · rw [List.getElem?_set_ne e]
theorem wipe_wipe {vs : List Nat} {σ : L2.St} : wipe (wipe σ vs) vs = wipe σ vs := by
  refine List.ext_getElem? fun j => ?_
  rw [wipe_get, wipe_length, wipe_get]
  by_cases hc : j ∈ vs ∧ j < σ.length
  · rw [if_pos hc, if_pos hc]
  · rw [if_neg hc]
theorem wipe_setV {vs : List Nat} : ∀ {is : List Nat} {us : List V} {σ : L2.St}, (∀ i ∈ is, i ∈ vs) → wipe (setV is us σ) vs = wipe σ vs
  | [], _, _, _ => by unfold setV; rfl
  | i :: is, [], σ, _ => rfl
  | i :: is, u :: us, σ, h => by
    show wipe (setV is us (σ.set i (some u))) vs = _
    rw [wipe_setV (is := is) fun j hj => h j (List.mem_cons_of_mem _ hj), wipe_set (h i (List.mem_cons_self ..))]
theorem wipe_setT {vs : List Nat} {t : Tgt} {v : V} {us : List V} (h : ∀ i ∈ t.slots, i ∈ vs) : wipe (setT t v us σ) vs = wipe σ vs := by
  cases t with
  | one i => exact wipe_set (h i (List.mem_cons_self ..))
  | many is => exact wipe_setV h
end

/-! ### comprehensions -/
/-- an exception within is nothing that can be told -/
def O.strict {α : Type} : O α → O α
  | .ex _ _ => .no
  | o => o
noncomputable def lcGo (g : List (Nat × Ob)) (ρ : Rho) (t : Tgt) (c : M Bool) (e : M D) : List D → Store → O (List D)
  | [], st => if guard g st = true then .ok [] st else .no
  | d :: r, st => if guard g st = true then (match bindT t d ρ with
    | none => .no
    | some ρ1 => (c ρ1 st).strict.bind fun b st1 => if b = true then (e ρ1 st1).strict.bind fun y st2 => (lcGo g ρ t c e r st2).bind fun ys st3 => .ok (y :: ys) st3 else lcGo g ρ t c e r st1) else .no
noncomputable def mLc (m : Bool) (it : M Src) (t : Tgt) (vs : List Nat) (c : M Bool) (e : M D) : M D := fun ρ st => (it ρ st).bind fun s st1 => (lcGo s.g (wipeD ρ vs) t c e s.ds st1).bind (mkL m)
section
variable {C : Cf} {X : Cx} {W : WX}
abbrev W0 : WX := fun _ _ _ _ => False
/-- while the list at p is made -/
theorem hold_ext {μ : Mu} {st : Store} {H : Hp} (R : C.Rel μ st H) {p : Addr} {vs : List V} (hp : H p = none) : Ext st.length μ H st.length (mhold μ p) (upd H p (.lst vs)) ∧ C.Rel (mhold μ p) st (upd H p (.lst vs)) := by
  obtain ⟨E, nl⟩ := R.fresh (o := .lst vs) hp
  have E2 : Ext st.length μ H st.length (mhold μ p) (upd H p (.lst vs)) := ⟨⟨E.le, E.mu, E.keep, fun i h1 h2 => absurd h1 (by omega), fun a h => .inl h, fun a h => h.elim .inl fun z => .inr (by rw [z]; exact hp), E.tups, E.dom⟩, E.all⟩
  refine ⟨E2, ⟨R.inj, fun i o q => ?_, fun i o q hu => .inl (R.liv i o q hu), fun a z => ?_⟩⟩
  · exact (R.obj i o q).ext E2 fun u hu => by rw [upd_ne (ne_of_none hu hp)]; exact hu
  · rcases z with z | z
    · obtain ⟨u, h, h'⟩ := R.trk a z
      exact ⟨u, by rw [upd_ne (ne_of_none h hp)]; exact h, h'⟩
    · rw [z]; exact ⟨_, upd_same, (fun _ q => by cases q), (fun _ _ q => by cases q)⟩
/-- a held list changes -/
theorem hold_set {μ : Mu} {st : Store} {H : Hp} (R : C.Rel μ st H) {p : Addr} {vs : List V} (hp : μ.L p) (hn : ∀ i, i < st.length → μ i ≠ p) : Wx st.length μ H st.length μ (upd H p (.lst vs)) ∧ C.Rel μ st (upd H p (.lst vs)) := by
  have E := R.wx_set (o := .lst vs) hp
  refine ⟨E, ⟨R.inj, fun i o q => ?_, R.liv, fun a z => ?_⟩⟩
  · exact (R.obj i o q).wx E fun u hu => by rw [upd_ne (hn i (List.getElem?_eq_some_iff.mp q).1)]; exact hu
  · by_cases e : a = p
    · rw [e]; exact ⟨_, upd_same, (fun _ q => by cases q), (fun _ _ q => by cases q)⟩
    · obtain ⟨u, h, h'⟩ := R.trk a z
      exact ⟨u, by rw [upd_ne e]; exact h, h'⟩
/-- what was not yet there at the beginning may change -/
theorem Ext.mut {n n1 : Nat} {μ μ1 : Mu} {H H1 : Hp} (e : Ext n μ H n1 μ1 H1) {p : Addr} {o : HO} (hp : H p = none) : Ext n μ H n1 μ1 (upd H1 p o) :=
  ⟨⟨e.le, e.mu, fun a u h nl => by rw [upd_ne (ne_of_none h hp)]; exact e.keep a u h nl, e.new, e.lv, e.fr, fun a xs h => by
      have ne : a ≠ p := by
        rcases h with h | ⟨b, h⟩ <;> exact ne_of_none h hp
      rcases e.tups a xs h with q | ⟨b, q⟩
      · exact .inl (by rw [upd_ne ne]; exact q)
      · exact .inr ⟨b, by rw [upd_ne ne]; exact q⟩, fun a h => by
      by_cases q : a = p
      · rw [q]; exact hp
      · rw [upd_ne q] at h; exact e.dom a h⟩, fun a u h nl => by rw [upd_ne (ne_of_none h hp)]; exact e.all a u h nl⟩
/-- let go -/
def mfree (μ : Mu) (p : Addr) : Mu := ⟨μ.f, fun a => μ.L a ∧ a ≠ p⟩
mutual
theorem Dat.less {K : PySem.W.Frag} {n n' : Nat} {μ μ' : Mu} {H : Hp} (hn : n ≤ n') (hf : ∀ i, i < n → μ' i = μ i) (hL : ∀ a, μ'.L a → μ.L a) : ∀ {v : V} {d : D}, Dat K n μ H v d → Dat K n' μ' H v d
  | _, _, .non => .non
  | _, _, .bl b => .bl b
  | _, _, .int i => .int i
  | _, _, .str h ok => .str h ok
  | _, _, .tup h hl hs => .tup h hl (DatL.less hn hf hL hs)
  | _, _, .lst h nl hl hs => .lst h (fun z => nl (hL _ z)) hl (DatL.less hn hf hL hs)
  | _, _, .dct h nl hl hs => .dct h (fun z => nl (hL _ z)) hl (DatK.less hn hf hL hs)
  | _, _, .frz h hl hs => .frz (h.less hL) hl (DatL.less hn hf hL hs)
  | _, _, .ref (i := i) h => by
    rw [← hf i h]
    exact .ref (Nat.lt_of_lt_of_le h hn)
theorem DatL.less {K : PySem.W.Frag} {n n' : Nat} {μ μ' : Mu} {H : Hp} (hn : n ≤ n') (hf : ∀ i, i < n → μ' i = μ i) (hL : ∀ a, μ'.L a → μ.L a) : ∀ {vs : List V} {ds : List D}, DatL K n μ H vs ds → DatL K n' μ' H vs ds
  | _, _, .nil => .nil
  | _, _, .cons h t => .cons (Dat.less hn hf hL h) (DatL.less hn hf hL t)
theorem DatK.less {K : PySem.W.Frag} {n n' : Nat} {μ μ' : Mu} {H : Hp} (hn : n ≤ n') (hf : ∀ i, i < n → μ' i = μ i) (hL : ∀ a, μ'.L a → μ.L a) : ∀ {vs : List (Key × V)} {ds : List (Key × D)}, DatK K n μ H vs ds → DatK K n' μ' H vs ds
  | _, _, .nil => .nil
  | _, _, .cons q h t => .cons q (Dat.less hn hf hL h) (DatK.less hn hf hL t)
end
theorem DatF.less {K : PySem.W.Frag} {n n' : Nat} {μ μ' : Mu} {H : Hp} (hn : n ≤ n') (hf : ∀ i, i < n → μ' i = μ i) (hL : ∀ a, μ'.L a → μ.L a) : ∀ {vs : List (Str × V)} {ds : List (Str × D)}, DatF K n μ H vs ds → DatF K n' μ' H vs ds
  | _, _, .nil => .nil
  | _, _, .cons h t => .cons (Dat.less hn hf hL h) (DatF.less hn hf hL t)
theorem ObR.less {K : PySem.W.Frag} {cls : Nat → Addr} {n n' : Nat} {μ μ' : Mu} {H : Hp} (hn : n ≤ n') (hf : ∀ i, i < n → μ' i = μ i) (hL : ∀ a, μ'.L a → μ.L a) {a : Addr} {o : Ob} (h : ObR K cls n μ H a o) : ObR K cls n' μ' H a o := by
  cases o with
  | lst ds => obtain ⟨vs, h, q, z⟩ := h; exact ⟨vs, h, q.less hn hf hL, z⟩
  | dct ds => obtain ⟨vs, h, q, z⟩ := h; exact ⟨vs, h, q.less hn hf hL, z⟩
  | ins c fs => obtain ⟨dx, vs, h, q, z⟩ := h; exact ⟨dx, vs, h, q.less hn hf hL, z⟩
  | lck ds => obtain ⟨vs, o, h, q, z⟩ := h; exact ⟨vs, o, h, q.less hn hf hL, z⟩
theorem Rel.free {μ : Mu} {st : Store} {H : Hp} (R : C.Rel μ st H) {p : Addr} (hn : ∀ i, i < st.length → μ i ≠ p) : C.Rel (mfree μ p) st H :=
  ⟨R.inj, fun i o q => ObR.less (μ := μ) (μ' := mfree μ p) (Nat.le_refl _) (fun _ _ => rfl) (fun a (z : (mfree μ p).L a) => z.1) (R.obj i o q), fun i o q hu => ⟨R.liv i o q hu, hn i (List.getElem?_eq_some_iff.mp q).1⟩, fun a z => R.trk a z.1⟩
/-- a held object becomes the store's last one -/
def madopt (μ : Mu) (n : Nat) (p : Addr) : Mu := ⟨fun i => if i = n then p else μ i, μ.L⟩
theorem madopt_at (μ : Mu) (n : Nat) (p : Addr) : madopt μ n p n = p := if_pos rfl
theorem madopt_ne {μ : Mu} {n i : Nat} {p : Addr} (h : i ≠ n) : madopt μ n p i = μ i := if_neg h
theorem Rel.adopt {μ : Mu} {st : Store} {H : Hp} (R : C.Rel μ st H) {p : Addr} {ob : Ob} (hL : μ.L p) (nm : ∀ i, i < st.length → μ i ≠ p) (ho : ObR C.K C.cls (st.length + 1) (madopt μ st.length p) H p ob) : C.Rel (madopt μ st.length p) (st ++ [ob]) H := by
  have el : (st ++ [ob]).length = st.length + 1 := by simp
  refine ⟨fun i j hi hj e => ?_, fun i o' q => ?_, fun i o' q hu => ?_, R.trk⟩
  · rw [el] at hi hj
    by_cases h1 : i = st.length
    · by_cases h2 : j = st.length
      · omega
      · rw [h1, madopt_at, madopt_ne h2] at e
        exact absurd e.symm (nm j (by omega))
    · by_cases h2 : j = st.length
      · rw [h2, madopt_at, madopt_ne h1] at e
        exact absurd e (nm i (by omega))
      · rw [madopt_ne h1, madopt_ne h2] at e
        exact R.inj i j (by omega) (by omega) e
  · rw [el]
    by_cases h1 : i < st.length
    · rw [List.getElem?_append_left h1] at q
      rw [madopt_ne (Nat.ne_of_lt h1)]
      exact (R.obj i o' q).less (Nat.le_succ _) (fun j hj => madopt_ne (Nat.ne_of_lt hj)) fun a z => z
    · have h2 : i = st.length := by
        have := (List.getElem?_eq_some_iff.mp q).1
        rw [el] at this
        omega
      subst h2
      rw [List.getElem?_append_right (Nat.le_refl _), Nat.sub_self] at q
      have : ob = o' := Option.some.inj q
      subst this
      rw [madopt_at]
      exact ho
  · have hi := (List.getElem?_eq_some_iff.mp q).1
    rw [el] at hi
    by_cases h1 : i = st.length
    · rw [h1, madopt_at]; exact hL
    · rw [List.getElem?_append_left (by omega)] at q
      rw [madopt_ne h1]; exact R.liv i o' q hu
/-- the end of a list's making: frozen, or live -/
theorem end_made {μ0 μ : Mu} {n0 : Nat} {H0 H : Hp} {st : Store} {p : Addr} {vs : List V} {ys : List D} {m : Bool} {σ : L2.St} {Q : VK} (hp0 : H0 p = none) (nl0 : ¬ μ0.L p) (E : Ext n0 μ0 H0 st.length μ H) (R : C.Rel μ st H) (hp : H p = some (.lst vs)) (hL : μ.L p) (hn : ∀ i, i < st.length → μ i ≠ p)
    (hs : DatL C.K st.length μ H vs ys) (h : Post C Dat W σ Q n0 μ0 H0 (mkL m ys st)) : Q (.ref p) H := by
  unfold mkL at h
  by_cases hl : ys.length ≤ sizeLine
  · rw [if_pos hl] at h
    have hnl : ¬ (mfree μ p).L p := fun z => z.2 rfl
    have R1 : C.Rel (mfree μ p) st H := R.free hn
    cases m with
    | true =>
      have el : (st ++ [Ob.lst ys]).length = st.length + 1 := by simp
      have h' : Post C Dat W σ Q n0 μ0 H0 (.ok (.ref st.length) (st ++ [.lst ys])) := h
      refine h' (.ref p) (madopt μ st.length p) H ?_ (R.adopt hL hn ⟨vs, hp, hs.less (Nat.le_succ _) (fun j hj => madopt_ne (Nat.ne_of_lt hj)) fun a z => z, hl⟩) ?_
      · rw [el]
        refine ⟨⟨Nat.le_succ_of_le E.le, fun i hi => ?_, E.keep, fun i h1 h2 => ?_, E.lv, E.fr, E.tups, E.dom⟩, E.all⟩
        · rw [madopt_ne (Nat.ne_of_lt (Nat.lt_of_lt_of_le hi E.le))]; exact E.mu i hi
        · by_cases h3 : i = st.length
          · rw [h3, madopt_at]; exact hp0
          · rw [madopt_ne h3]; exact E.new i h1 (by omega)
      · rw [el]
        have z : Dat C.K (st.length + 1) (madopt μ st.length p) H (.ref (madopt μ st.length p st.length)) (.ref st.length) := .ref (Nat.lt_succ_self _)
        rw [madopt_at] at z
        exact z
    | false =>
      have h' : Post C Dat W σ Q n0 μ0 H0 (.ok (.lst ys) st) := h
      exact h' (.ref p) (mfree μ p) H ⟨⟨E.le, E.mu, E.keep, E.new, fun a z => ⟨E.lv a z, fun q => nl0 (by rw [← q]; exact z)⟩, fun a z => E.fr a z.1, E.tups, E.dom⟩, E.all⟩ R1
        (.lst hp hnl hl (DatL.less (μ := μ) (μ' := mfree μ p) (Nat.le_refl _) (fun _ _ => rfl) (fun a (z : (mfree μ p).L a) => z.1) hs))
  · rw [if_neg hl] at h
    exact False.elim h
/-- [e for t in it if c] -/
theorem td_lc (hK : X.K = C.K) {m : Bool} {it : M Src} {t : Tgt} {vs : List Nat} {c : M Bool} {e : M D} (ht : ∀ i ∈ t.slots, i ∈ vs) {σ : L2.St} {H : Hp} {Q : VK} (h : TD C W (mLc m it t vs c e) σ H Q) :
    tLc (TDI C W it) (gOf X.K t) (TDT C W0 c) (TD C W0 e) vs σ H Q := by
  obtain ⟨μ, ρ, st, R, E, h⟩ := h
  refine ⟨μ, ρ, st, R, E, (Post.bind (R := RI C) h).imp fun J H1 ⟨⟨ds, g⟩, st1, μ1, _, e1, R1, d1, h1⟩ => ?_⟩
  obtain ⟨wk, hz⟩ := d1
  have hz : ds.length ≤ sizeLine := hz
  intro p hp
  obtain ⟨E1, nlp⟩ := R1.fresh (o := .lst []) hp
  have Ew : C.Env st1.length μ1 H1 (wipe σ vs) (wipeD ρ vs) := (E.ext e1).wipe vs
  -- the invariant: so many turns are gone; what is left gives what is wanted
  refine ⟨fun i k H2 => k = ds.length - i ∧ i ≤ ds.length ∧ ∃ (μ2 : Mu) (st2 : Store) (acc : List V) (ys : List D), Ext st1.length μ1 H1 st2.length μ2 H2 ∧ C.Rel μ2 st2 H2 ∧ H2 p = some (.lst acc) ∧ μ2.L p ∧ (∀ j, j < st2.length → μ2 j ≠ p) ∧ DatL C.K st2.length μ2 H2 acc ys ∧ ys.length ≤ i ∧
      Post C Dat W σ Q st1.length μ1 H1 ((lcGo g (wipeD ρ vs) t c e (ds.drop i) st2).bind fun zs st3 => mkL m (ys ++ zs) st3), ⟨ds.length, by simp, Nat.zero_le _, mhold μ1 p, st1, [], [], ?_⟩, ?_⟩
  · obtain ⟨Eh, Rh⟩ := hold_ext R1 (vs := []) hp
    refine ⟨Eh, Rh, upd_same, .inr rfl, fun j hj => R1.ne_new hj hp, .nil, Nat.le_refl _, ?_⟩
    rw [List.drop_zero]
    exact h1
  · rintro i k H2 ⟨rfl, hi, μ2, st2, acc, ys, E2, R2, hp2, hL2, hn2, hs2, hy2, h2⟩
    by_cases hg : guard g st2 = true
    case neg =>
      have : lcGo g (wipeD ρ vs) t c e (ds.drop i) st2 = .no := by
        cases ds.drop i <;> (unfold lcGo; rw [if_neg hg])
      rw [this] at h2
      exact False.elim h2
    by_cases hlt : i < ds.length
    · refine .inr ⟨wk.go _ _ _ E2 R2 hg i hlt, _, fun H' h' => ⟨ds.length - (i + 1), by omega, h'⟩, fun x H3 hy => ?_⟩
      have hd : ds[i]? = some ds[i] := List.getElem?_eq_getElem hlt
      obtain ⟨E3, R3, d3⟩ := wk.yld st2 μ2 H2 E2 R2 hg i ds[i] x H3 hd hy
      have e3 : ds.drop i = ds[i] :: ds.drop (i + 1) := (List.getElem_cons_drop hlt).symm
      rw [e3] at h2
      unfold lcGo at h2
      rw [if_pos hg] at h2
      cases q : bindT t ds[i] (wipeD ρ vs) with
      | none => simp only [q] at h2; exact False.elim h2
      | some ρ1 =>
        simp only [q] at h2
        have E23 := E2.trans E3
        refine gOf_ok hK (Ew.ext E23) d3 q fun us Eu => ⟨by rw [wipe_setT ht, wipe_wipe], ?_⟩
        have hp3 : H3 p = some (.lst acc) := E3.all p _ hp2 hn2
        -- the test
        refine ⟨μ2, ρ1, st2, R3, Eu, ?_⟩
        cases q1 : c ρ1 st2 with
        | no => rw [q1] at h2; exact False.elim h2
        | ex x s => rw [q1] at h2; exact False.elim h2
        | ok b st3 =>
          rw [q1] at h2
          intro b' μ3 H4 E4 R4 hb
          subst hb
          have hn3 : ∀ j, j < st3.length → μ3 j ≠ p := fun j hj z => by
            by_cases hj2 : j < st2.length
            · exact hn2 j hj2 (by rw [← E4.mu j hj2]; exact z)
            · have w := E4.new j (by omega) hj
              rw [z, hp3] at w; cases w
          have hp4 : H4 p = some (.lst acc) := E4.all p _ hp3 hn2
          cases b' with
          | false =>
            refine iteF ⟨rfl, hlt, μ3, st3, acc, ys, E23.trans E4, R4, hp4, E4.lv p hL2, hn3, (hs2.ext E3).ext E4, by omega, ?_⟩
            exact h2
          | true =>
            refine iteT ?_
            refine ⟨μ3, ρ1, st3, R4, Eu.ext E4, ?_⟩
            have h2 : Post C Dat W σ Q st1.length μ1 H1 (((e ρ1 st3).strict.bind fun y st2 => (lcGo g (wipeD ρ vs) t c e (ds.drop (i + 1)) st2).bind fun ys st3 => .ok (y :: ys) st3).bind fun zs st3 => mkL m (ys ++ zs) st3) := h2
            cases q2 : e ρ1 st3 with
            | no => rw [q2] at h2; exact False.elim h2
            | ex x s => rw [q2] at h2; exact False.elim h2
            | ok y st4 =>
              rw [q2] at h2
              intro v μ4 H5 E5 R5 dv
              have hp5 : H5 p = some (.lst acc) := E5.all p _ hp4 hn3
              have hL5 : μ4.L p := E5.lv p (E4.lv p hL2)
              have hn5 : ∀ j, j < st4.length → μ4 j ≠ p := fun j hj z => by
                by_cases hj2 : j < st3.length
                · exact hn3 j hj2 (by rw [← E5.mu j hj2]; exact z)
                · have w := E5.new j (by omega) hj
                  rw [z, hp4] at w; cases w
              have hs5 := ((hs2.ext E3).ext E4).ext E5
              have E15 := (E23.trans E4).trans E5
              obtain ⟨Wm, Rm⟩ := hold_set R5 (vs := acc ++ [v]) hL5 hn5
              refine ⟨acc, hp5, ?_, rfl, hlt, μ4, st4, acc ++ [v], ys ++ [y], E15.mut hp, Rm, upd_same, hL5, hn5, (hs5.append (.cons dv .nil)).wx Wm, by rw [List.length_append]; simp; omega, ?_⟩
              · rw [hs5.length]; omega
              · have h2 : Post C Dat W σ Q st1.length μ1 H1 (((lcGo g (wipeD ρ vs) t c e (ds.drop (i + 1)) st4).bind fun ys st3 => .ok (y :: ys) st3).bind fun zs st3 => mkL m (ys ++ zs) st3) := h2
                cases q3 : lcGo g (wipeD ρ vs) t c e (ds.drop (i + 1)) st4 with
                | no => rw [q3] at h2; exact False.elim h2
                | ex x s => rw [q3] at h2; exact h2
                | ok zs st5 =>
                  rw [q3] at h2
                  have h2 : Post C Dat W σ Q st1.length μ1 H1 (mkL m (ys ++ y :: zs) st5) := h2
                  show Post C Dat W σ Q st1.length μ1 H1 (mkL m (ys ++ [y] ++ zs) st5)
                  rw [List.append_assoc]
                  exact h2
    · have e0 : i = ds.length := by omega
      subst e0
      rw [List.drop_length] at h2
      unfold lcGo at h2
      rw [if_pos hg] at h2
      have h2 : Post C Dat W σ Q st1.length μ1 H1 (mkL m (ys ++ []) st2) := h2
      rw [List.append_nil] at h2
      exact .inl ⟨wk.stop _ _ _ E2 R2 hg, end_made hp nlp E2 R2 hp2 hL2 hn2 hs2 h2⟩
end
end Mi
/-! Mi10: statements, loops, calls. -/
namespace Mi
open PySem L2

def sNil : MS := fun ρ st => .nx ρ st
def sSeq (a b : MS) : MS := fun ρ st => match a ρ st with
  | .nx ρ1 st1 => b ρ1 st1
  | o => o
/-- an expression first, then .. -/
def O.toS {α : Type} (o : O α) (ρ : Rho) (k : α → Store → OS) : OS := match o with
  | .ok a st => k a st
  | .ex x st => .ex x ρ st
  | .no => .no
def sAsg (e : M D) (t : Tgt) : MS := fun ρ st => (e ρ st).toS ρ fun d st1 => match bindT t d ρ with
  | some ρ' => .nx ρ' st1
  | none => .no
def sExpr (e : M D) : MS := fun ρ st => (e ρ st).toS ρ fun _ st1 => .nx ρ st1
def sRet (e : M D) : MS := fun ρ st => (e ρ st).toS ρ fun d st1 => .rt d st1
def sRetN : MS := fun _ st => .rt .non st
def sIf (c : M Bool) (a b : MS) : MS := fun ρ st => (c ρ st).toS ρ fun x st1 => if x = true then a ρ st1 else b ρ st1
def sBreak : MS := fun ρ st => .bk ρ st
def sCont : MS := fun ρ st => .ct ρ st
/-- a turn of a loop, then the rest -/
def OS.turn (o : OS) (k : MS) : OS := match o with
  | .nx ρ' st' => k ρ' st'
  | .ct ρ' st' => k ρ' st'
  | .bk ρ' st' => .nx ρ' st'
  | o => o
def sWhile (c : M Bool) (b : MS) : Nat → MS
  | 0 => fun _ _ => .no
  | n + 1 => fun ρ st => (c ρ st).toS ρ fun x st1 => if x = true then (b ρ st1).turn (sWhile c b n) else .nx ρ st1
noncomputable def forGo (g : List (Nat × Ob)) (t : Tgt) (b : MS) : List D → MS
  | [] => fun ρ st => if guard g st = true then .nx ρ st else .no
  | d :: r => fun ρ st => if guard g st = true then (match bindT t d ρ with
    | none => .no
    | some ρ1 => (b ρ1 st).turn (forGo g t b r)) else .no
noncomputable def sFor (it : M Src) (t : Tgt) (b : MS) : MS := fun ρ st => (it ρ st).toS ρ fun s st1 => forGo s.g t b s.ds ρ st1
section
variable {C : Cf} {X : Cx} {W : WX} {D : Ends} {σ : L2.St} {H : Hp}
/-- the outcome of an expression, first -/
theorem td_first {α β : Type} {R : RelT α β} {m : M α} {k : α → MS} {μ : Mu} {ρ : Rho} {st : Store} {Q : β → Hp → Prop} (Rl : C.Rel μ st H) (E : C.Env st.length μ H σ ρ)
    (h : PostS C W D st.length μ H ((m ρ st).toS ρ fun a st1 => k a ρ st1))
    (hq : ∀ (v : β) (a : α) (st1 : Store) (μ1 : Mu) (H1 : Hp), m ρ st = .ok a st1 → Ext st.length μ H st1.length μ1 H1 → C.Rel μ1 st1 H1 → C.Env st1.length μ1 H1 σ ρ → R C.K st1.length μ1 H1 v a → PostS C W D st1.length μ1 H1 (k a ρ st1) → Q v H1) : TDg C R W m σ H Q := by
  refine ⟨μ, ρ, st, Rl, E, ?_⟩
  cases q : m ρ st with
  | no => rw [q] at h; exact h
  | ex x st1 =>
    rw [q] at h
    exact fun cl dd μ' H' e r d => h cl dd σ μ' H' e r (E.ext e) d
  | ok a st1 =>
    rw [q] at h
    exact fun v μ' H' e r d => hq v a st1 μ' H' q e r (E.ext e) d (PostS.go e h)
theorem td_nil (h : TDS C W sNil D σ H) : tNext D σ H := by
  obtain ⟨μ, ρ, st, R, E, h⟩ := h
  exact h σ μ H Ext.refl R E
theorem td_seq {a b : MS} (h : TDS C W (sSeq a b) D σ H) : tSeq (TDS C W a) (TDS C W b) D σ H := by
  obtain ⟨μ, ρ, st, R, E, h⟩ := h
  refine ⟨μ, ρ, st, R, E, ?_⟩
  unfold sSeq at h
  cases q : a ρ st with
  | nx ρ1 st1 => rw [q] at h; exact fun σ' μ' H' e r d => ⟨μ', ρ1, st1, r, d, PostS.go e h⟩
  | no => rw [q] at h; exact h
  | rt d st1 => rw [q] at h; exact h
  | bk d st1 => rw [q] at h; exact h
  | ct d st1 => rw [q] at h; exact h
  | ex x d st1 => rw [q] at h; exact h
theorem td_asg (hK : X.K = C.K) {e : M Mi.D} {t : Tgt} (h : TDS C W (sAsg e t) D σ H) : tAsg (TD C W e) (gOf X.K t) D σ H := by
  obtain ⟨μ, ρ, st, R, E, h⟩ := h
  refine td_first (R := Dat) (m := e) (k := fun d ρ st1 => match bindT t d ρ with | some ρ' => .nx ρ' st1 | none => .no) R E h fun v d st1 μ1 H1 _ e1 R1 E1 d1 h1 => ?_
  cases q : bindT t d ρ with
  | none => simp only [q] at h1; exact False.elim h1
  | some ρ' =>
    simp only [q] at h1
    exact gOf_ok hK E1 d1 q fun vs Eu => h1 _ μ1 H1 Ext.refl R1 Eu
theorem td_expr {e : M Mi.D} (h : TDS C W (sExpr e) D σ H) : tDrop (TD C W e) D σ H := by
  obtain ⟨μ, ρ, st, R, E, h⟩ := h
  exact td_first (R := Dat) (m := e) (k := fun d ρ st1 => .nx ρ st1) R E h fun v d st1 μ1 H1 _ e1 R1 E1 d1 h1 => h1 σ μ1 H1 Ext.refl R1 E1
theorem td_ret {e : M Mi.D} (h : TDS C W (sRet e) D σ H) : tRet (TD C W e) D σ H := by
  obtain ⟨μ, ρ, st, R, E, h⟩ := h
  exact td_first (R := Dat) (m := e) (k := fun d ρ st1 => .rt d st1) R E h fun v d st1 μ1 H1 _ e1 R1 E1 d1 h1 => h1 v μ1 H1 Ext.refl R1 d1
theorem td_retN (h : TDS C W sRetN D σ H) : tRetN D σ H := by
  obtain ⟨μ, ρ, st, R, E, h⟩ := h
  exact h .non μ H Ext.refl R .non
theorem td_if {c : M Bool} {a b : MS} (h : TDS C W (sIf c a b) D σ H) : tIfS (TDT C W c) (TDS C W a) (TDS C W b) D σ H := by
  obtain ⟨μ, ρ, st, R, E, h⟩ := h
  refine td_first (R := RB) (m := c) (k := fun x ρ st1 => if x = true then a ρ st1 else b ρ st1) R E h fun v x st1 μ1 H1 _ e1 R1 E1 d1 h1 => ?_
  subst d1
  cases v with
  | true => exact iteT ⟨μ1, ρ, st1, R1, E1, h1⟩
  | false => exact iteF ⟨μ1, ρ, st1, R1, E1, h1⟩
theorem td_break (h : TDS C W sBreak D σ H) : tBreak D σ H := by
  obtain ⟨μ, ρ, st, R, E, h⟩ := h
  exact h σ μ H Ext.refl R E
theorem td_cont (h : TDS C W sCont D σ H) : tCont D σ H := by
  obtain ⟨μ, ρ, st, R, E, h⟩ := h
  exact h σ μ H Ext.refl R E
theorem td_while {c : M Bool} {b : MS} {n : Nat} (h : TDS C W (sWhile c b n) D σ H) : tWhile (TDT C W c) (TDS C W b) D σ H := by
  obtain ⟨μ, ρ, st, R, E, h⟩ := h
  refine ⟨fun m σ H => ∃ (μ : Mu) (ρ : Rho) (st : Store), C.Rel μ st H ∧ C.Env st.length μ H σ ρ ∧ PostS C W D st.length μ H (sWhile c b m ρ st), ⟨n, μ, ρ, st, R, E, h⟩, ?_⟩
  rintro m σ H ⟨μ, ρ, st, R, E, h⟩
  cases m with
  | zero => exact False.elim h
  | succ m =>
    refine td_first (R := RB) (m := c) (k := fun x ρ st1 => if x = true then (b ρ st1).turn (sWhile c b m) else .nx ρ st1) R E h fun v x st1 μ1 H1 _ e1 R1 E1 d1 h1 => ?_
    subst d1
    cases v with
    | false => exact iteF (h1 σ μ1 H1 Ext.refl R1 E1)
    | true =>
      refine iteT ⟨fun σ' H' => ∃ (μ : Mu) (ρ : Rho) (st : Store), C.Rel μ st H' ∧ C.Env st.length μ H' σ' ρ ∧ PostS C W D st.length μ H' (sWhile c b m ρ st), fun σ' H' q => ⟨m, Nat.lt_succ_self _, q⟩, μ1, ρ, st1, R1, E1, ?_⟩
      have h1 : PostS C W D st1.length μ1 H1 ((b ρ st1).turn (sWhile c b m)) := h1
      cases q : b ρ st1 with
      | nx ρ1 st2 => rw [q] at h1; exact fun σ' μ' H' e r d => ⟨μ', ρ1, st2, r, d, PostS.go e h1⟩
      | ct ρ1 st2 => rw [q] at h1; exact fun σ' μ' H' e r d => ⟨μ', ρ1, st2, r, d, PostS.go e h1⟩
      | bk ρ1 st2 => rw [q] at h1; exact h1
      | rt d st2 => rw [q] at h1; exact h1
      | no => rw [q] at h1; exact h1
      | ex x ρ1 st2 => rw [q] at h1; exact h1
theorem td_for (hK : X.K = C.K) {it : M Src} {t : Tgt} {b : MS} (h : TDS C W (sFor it t b) D σ H) : tFor (TDI C W it) (gOf X.K t) (TDS C W b) D σ H := by
  obtain ⟨μ, ρ, st, R, E, h⟩ := h
  refine td_first (R := RI C) (m := it) (k := fun s ρ st1 => forGo s.g t b s.ds ρ st1) R E h fun J ⟨ds, g⟩ st1 μ1 H1 _ e1 R1 E1 d1 h1 => ?_
  obtain ⟨wk, hz⟩ := d1
  refine ⟨fun i k σ2 H2 => k = ds.length - i ∧ i ≤ ds.length ∧ ∃ (μ2 : Mu) (ρ2 : Rho) (st2 : Store), Ext st1.length μ1 H1 st2.length μ2 H2 ∧ C.Rel μ2 st2 H2 ∧ C.Env st2.length μ2 H2 σ2 ρ2 ∧ PostS C W D st2.length μ2 H2 (forGo g t b (ds.drop i) ρ2 st2),
    ⟨ds.length, by simp, Nat.zero_le _, μ1, ρ, st1, Ext.refl, R1, E1, by rw [List.drop_zero]; exact h1⟩, ?_⟩
  rintro i k σ2 H2 ⟨rfl, hi, μ2, ρ2, st2, X2, R2, E2, h2⟩
  by_cases hg : guard g st2 = true
  case neg =>
    have : forGo g t b (ds.drop i) ρ2 st2 = .no := by
      cases ds.drop i <;> (unfold forGo; rw [if_neg hg])
    rw [this] at h2
    exact False.elim h2
  by_cases hlt : i < ds.length
  · refine .inr ⟨wk.go _ _ _ X2 R2 hg i hlt, fun σ' H' => (i + 1 ≤ ds.length ∧ ∃ (μ2 : Mu) (ρ2 : Rho) (st2 : Store), Ext st1.length μ1 H1 st2.length μ2 H' ∧ C.Rel μ2 st2 H' ∧ C.Env st2.length μ2 H' σ' ρ2 ∧ PostS C W D st2.length μ2 H' (forGo g t b (ds.drop (i + 1)) ρ2 st2)),
      fun σ' H' q => ⟨ds.length - (i + 1), by omega, rfl, q⟩, fun x H3 hy => ?_⟩
    have hd : ds[i]? = some ds[i] := List.getElem?_eq_getElem hlt
    obtain ⟨X3, R3, d3⟩ := wk.yld st2 μ2 H2 X2 R2 hg i ds[i] x H3 hd hy
    have e3 : ds.drop i = ds[i] :: ds.drop (i + 1) := (List.getElem_cons_drop hlt).symm
    rw [e3] at h2
    unfold forGo at h2
    rw [if_pos hg] at h2
    have h2 : PostS C W D st2.length μ2 H2 (match bindT t ds[i] ρ2 with
      | none => .no
      | some ρ1 => (b ρ1 st2).turn (forGo g t b (ds.drop (i + 1)))) := h2
    cases q : bindT t ds[i] ρ2 with
    | none => rw [q] at h2; exact False.elim h2
    | some ρ3 =>
      rw [q] at h2
      refine gOf_ok hK (E2.ext X3) d3 q fun us Eu => ⟨μ2, ρ3, st2, R3, Eu, ?_⟩
      have h2 := PostS.go X3 h2
      have h2 : PostS C W D st2.length μ2 H3 ((b ρ3 st2).turn (forGo g t b (ds.drop (i + 1)))) := h2
      cases q2 : b ρ3 st2 with
      | nx ρ1 st3 => rw [q2] at h2; exact fun σ' μ' H' e r d => ⟨hlt, μ', ρ1, st3, (X2.trans X3).trans e, r, d, PostS.go e h2⟩
      | ct ρ1 st3 => rw [q2] at h2; exact fun σ' μ' H' e r d => ⟨hlt, μ', ρ1, st3, (X2.trans X3).trans e, r, d, PostS.go e h2⟩
      | bk ρ1 st3 => rw [q2] at h2; exact h2
      | rt d st3 => rw [q2] at h2; exact h2
      | no => rw [q2] at h2; exact h2
      | ex x ρ1 st3 => rw [q2] at h2; exact h2
  · have e0 : i = ds.length := by omega
    subst e0
    rw [List.drop_length] at h2
    unfold forGo at h2
    rw [if_pos hg] at h2
    exact .inl ⟨wk.stop _ _ _ X2 R2 hg, h2 σ2 μ2 H2 Ext.refl R2 E2⟩
end

/-! ### what a def promises -/
abbrev Fn := List D → Store → O D
def SpOf (C : Cf) (k : Nat) (f : Fn) : Sp := fun vs H Q E => ∃ (μ : Mu) (st : Store) (ds : List D), C.Rel μ st H ∧ DatL C.K st.length μ H vs ds ∧ ds.length = k ∧ Post C Dat (fun cl dd _ H' => E cl dd H') [] Q st.length μ H (f ds st)
def mCall (k : Nat) (f : Fn) (a : M (List D)) : M D := fun ρ st => (a ρ st).bind fun ds st1 => if ds.length = k then f ds st1 else .no
section
variable {C : Cf} {X : Cx} {W : WX} {σ : L2.St} {H : Hp}
theorem td_call {k : Nat} {f : Fn} {a : M (List D)} {Q : VK} (h : TD C W (mCall k f a) σ H Q) : tCallSD (SpOf C k f) [] (WE W) (TDA C W a) σ H Q := by
  obtain ⟨μ, ρ, st, R, E, h⟩ := h
  refine ⟨μ, ρ, st, R, E, (Post.bind (R := DatL) h).imp fun vs H1 ⟨ds, st1, μ1, _, e1, R1, d1, h1⟩ => ?_⟩
  by_cases hk : ds.length = k
  · rw [if_pos hk] at h1
    rw [List.append_nil]
    refine ⟨μ1, st1, ds, R1, d1, hk, ?_⟩
    cases q : f ds st1 with
    | no => rw [q] at h1; exact h1
    | ok d st2 => rw [q] at h1; exact h1
    | ex x st2 => rw [q] at h1; exact h1
  · rw [if_neg hk] at h1; exact False.elim h1
end

/-! ### the end of a def: what was made within is frozen -/
def fzAll (f : D → Option D) (xs : List D) : Option (List D) := sq (xs.map f)
def fz : Nat → Nat → Store → D → Option D
  | 0, _, _, _ => none
  | _ + 1, _, _, .non => some .non
  | _ + 1, _, _, .bl b => some (.bl b)
  | _ + 1, _, _, .int i => some (.int i)
  | _ + 1, _, _, .str s => some (.str s)
  | k + 1, n, st, .tup xs => (sq (xs.map (fz k n st))).map .tup
  | k + 1, n, st, .lst xs => (sq (xs.map (fz k n st))).map .lst
  | k + 1, n, st, .frz xs => (sq (xs.map (fz k n st))).map .frz
  | k + 1, n, st, .dct xs => (sq (xs.map fun kv => (fz k n st kv.2).map fun d => (kv.1, d))).map .dct
  | k + 1, n, st, .ref i => if i < n then some (.ref i) else match st[i]? with
    | some (.lst xs) => (sq (xs.map (fz k n st))).map .lst
    | some (.dct xs) => (sq (xs.map fun kv => (fz k n st kv.2).map fun d => (kv.1, d))).map .dct
    | _ => none
/-- the dropped objects are held no more -/
def mcut (μ : Mu) (n n' : Nat) : Mu := ⟨μ.f, fun a => μ.L a ∧ ∀ i, n ≤ i → i < n' → μ i ≠ a⟩
section
variable {C : Cf} {X : Cx} {W : WX} {σ : L2.St} {H : Hp} {μ : Mu} {n : Nat} {st : Store}
theorem sq_cons {α : Type} {o : Option α} {r : List (Option α)} {l : List α} (h : sq (o :: r) = some l) : ∃ x t, o = some x ∧ sq r = some t ∧ l = x :: t := by
  cases o with
  | none => cases h
  | some x =>
    obtain ⟨t, h1, h2⟩ := map_some (show (sq r).map (x :: ·) = some l from h)
    exact ⟨x, t, rfl, h1, h2.symm⟩
theorem sq_length {α : Type} : ∀ {os : List (Option α)} {l : List α}, sq os = some l → l.length = os.length
  | [], l, h => by cases h; rfl
  | o :: r, l, h => by
    obtain ⟨x, t, _, h2, rfl⟩ := sq_cons h
    rw [List.length_cons, List.length_cons, sq_length h2]
theorem fz_all {k : Nat} {μ' : Mu} {n0 : Nat} (ih : ∀ (v : V) (d d' : D), Dat C.K st.length μ H v d → fz k n0 st d = some d' → Dat C.K n0 μ' H v d') :
    ∀ (xs : List D) (vs : List V) (ys : List D), DatL C.K st.length μ H vs xs → sq (xs.map (fz k n0 st)) = some ys → DatL C.K n0 μ' H vs ys
  | [], vs, ys, h, e => by
    cases h
    cases e
    exact .nil
  | d :: ds, vs, ys, h, e => by
    cases h with
    | cons h1 h2 =>
      obtain ⟨x, t, q1, q2, rfl⟩ := sq_cons e
      exact .cons (ih _ d x h1 q1) (fz_all ih ds _ t h2 q2)
theorem fz_allK {k : Nat} {μ' : Mu} {n0 : Nat} (ih : ∀ (v : V) (d d' : D), Dat C.K st.length μ H v d → fz k n0 st d = some d' → Dat C.K n0 μ' H v d') :
    ∀ (xs : List (Key × D)) (vs : List (Key × V)) (ys : List (Key × D)), DatK C.K st.length μ H vs xs → sq (xs.map fun kv => (fz k n0 st kv.2).map fun d => (kv.1, d)) = some ys → DatK C.K n0 μ' H vs ys
  | [], vs, ys, h, e => by
    cases h
    cases e
    exact .nil
  | (kk, d) :: ds, vs, ys, h, e => by
    cases h with
    | cons hk h1 h2 =>
      obtain ⟨x, t, q1, q2, rfl⟩ := sq_cons e
      obtain ⟨d', q3, rfl⟩ := map_some q1
      exact .cons hk (ih _ d d' h1 q3) (fz_allK ih ds _ t h2 q2)
theorem fz_ok (R : C.Rel μ st H) {n0 : Nat} (hn : n0 ≤ st.length) : ∀ (k : Nat) (v : V) (d d' : D), Dat C.K st.length μ H v d → fz k n0 st d = some d' → Dat C.K n0 (mcut μ n0 st.length) H v d'
  | 0, _, _, _, _, e => by cases e
  | k + 1, v, d, d', h, e => by
    have key := fz_all (n0 := n0) (fz_ok R hn k)
    have keyK := fz_allK (n0 := n0) (fz_ok R hn k)
    cases h with
    | non => cases e; exact .non
    | bl b => cases e; exact .bl b
    | int i => cases e; exact .int i
    | str hl ok => cases e; exact .str hl ok
    | @tup a vs xs h hl hs =>
      obtain ⟨ys, q, rfl⟩ := map_some (show (sq (xs.map (fz k n0 st))).map D.tup = some d' from e)
      have := sq_length q
      rw [List.length_map] at this
      exact .tup h (by rw [this]; exact hl) (key xs vs ys hs q)
    | @lst a vs xs h nl hl hs =>
      obtain ⟨ys, q, rfl⟩ := map_some (show (sq (xs.map (fz k n0 st))).map D.lst = some d' from e)
      have := sq_length q
      rw [List.length_map] at this
      exact .lst h (fun z => nl z.1) (by rw [this]; exact hl) (key xs vs ys hs q)
    | @frz a vs xs h hl hs =>
      obtain ⟨ys, q, rfl⟩ := map_some (show (sq (xs.map (fz k n0 st))).map D.frz = some d' from e)
      have := sq_length q
      rw [List.length_map] at this
      exact .frz (h.less fun a (z : (mcut μ n0 st.length).L a) => z.1) (by rw [this]; exact hl) (key xs vs ys hs q)
    | @dct a vs xs h nl hl hs =>
      obtain ⟨ys, q, rfl⟩ := map_some (show (sq (xs.map fun kv => (fz k n0 st kv.2).map fun d => (kv.1, d))).map D.dct = some d' from e)
      have := sq_length q
      rw [List.length_map] at this
      exact .dct h (fun z => nl z.1) (by rw [this]; exact hl) (keyK xs vs ys hs q)
    | @ref i hi =>
      have e' : (if i < n0 then some (D.ref i) else match st[i]? with
        | some (.lst xs) => (sq (xs.map (fz k n0 st))).map .lst
        | some (.dct xs) => (sq (xs.map fun kv => (fz k n0 st kv.2).map fun d => (kv.1, d))).map .dct
        | _ => none) = some d' := e
      by_cases hc : i < n0
      · rw [if_pos hc] at e'
        cases e'
        exact .ref (μ := mcut μ n0 st.length) hc
      · rw [if_neg hc] at e'
        have nl : ¬ (mcut μ n0 st.length).L (μ i) := fun z => z.2 i (by omega) hi rfl
        cases q : st[i]? with
        | none => rw [q] at e'; cases e'
        | some o =>
          rw [q] at e'
          cases o with
          | lst xs =>
            obtain ⟨ys, q2, rfl⟩ := map_some (show (sq (xs.map (fz k n0 st))).map D.lst = some d' from e')
            obtain ⟨vs, h1, h2, h3⟩ := R.obj i _ q
            have := sq_length q2
            rw [List.length_map] at this
            exact .lst h1 nl (by rw [this]; exact h3) (key xs vs ys h2 q2)
          | dct xs =>
            obtain ⟨ys, q2, rfl⟩ := map_some (show (sq (xs.map fun kv => (fz k n0 st kv.2).map fun d => (kv.1, d))).map D.dct = some d' from e')
            obtain ⟨vs, h1, h2, h3⟩ := R.obj i _ q
            have := sq_length q2
            rw [List.length_map] at this
            exact .dct h1 nl (by rw [this]; exact h3) (keyK xs vs ys h2 q2)
          | ins _ _ => cases e'
          | lck _ => cases e'
end
end Mi
/-! Mi11: a def by its body. -/
namespace Mi
open PySem L2

structure Gd (C : Cf) (k : Nat) (X : Cx) (W : WX) : Prop where
  P : X.prog = C.P
  w : X.w = C.w
  K : X.K = C.K
  mg : X.mg = C.mg
  base : X.base = C.base
  calm : X.calm = true
  nd : X.N.Nodup
  room : Room k X.A
  tk : Takes X W
  own : PassesOwn (model X.prog X.w) X.A X.env X.xe

/-- the frame of a def -/
structure StF (X : Cx) : Prop where
  stk : X.stack = X.env :: X.outer
  frm : X.env.frame = some X.env.locals
def startD (n : Nat) (ds : List D) : Rho := ds.map some ++ List.replicate (n - ds.length) none
open Classical in
/-- fzd: what was made within is frozen, and the store is as it was -/
noncomputable def retF (fzd : Bool) (st : Store) (d : D) (st' : Store) : O D := if fzd = true then (if st'.take st.length = st then (match fz 64 st.length st' d with
    | some d' => .ok d' st
    | none => .no) else .no) else .ok d st'
noncomputable def runF (n : Nat) (fzd : Bool) (m : MS) : Fn := fun ds st => match m (startD n ds) st with
  | .nx _ st' => retF fzd st .non st'
  | .rt d st' => retF fzd st d st'
  | .ex x _ st' => .ex x st'
  | _ => .no
section
variable {C : Cf} {X : Cx} {W : WX} {σ : L2.St}
mutual
theorem Dat.trim {K : PySem.W.Frag} {n n' : Nat} {μ μ' : Mu} {H H' : Hp} (m : Mu) (hf : ∀ i, i < n → m i = μ' i) (hL : ∀ a, m.L a → μ'.L a) : ∀ {v0 v : V} {d : D}, Dat K n μ H v0 d → Dat K n' μ' H' v d → Dat K n m H' v d
  | _, _, _, .non, .non => .non
  | _, _, _, .bl _, .bl b => .bl b
  | _, _, _, .int _, .int i => .int i
  | _, _, _, .str _ _, .str h ok => .str h ok
  | _, _, _, .tup _ _ hs0, .tup h hl hs => .tup h hl (DatL.trim m hf hL hs0 hs)
  | _, _, _, .lst _ _ _ hs0, .lst h nl hl hs => .lst h (fun z => nl (hL _ z)) hl (DatL.trim m hf hL hs0 hs)
  | _, _, _, .dct _ _ _ hs0, .dct h nl hl hs => .dct h (fun z => nl (hL _ z)) hl (DatK.trim m hf hL hs0 hs)
  | _, _, _, .frz _ _ hs0, .frz h hl hs => .frz (h.less hL) hl (DatL.trim m hf hL hs0 hs)
  | _, _, .ref i, .ref h0, h => by
    cases h with
    | ref hh =>
      rw [← hf i h0]
      exact .ref h0
theorem DatL.trim {K : PySem.W.Frag} {n n' : Nat} {μ μ' : Mu} {H H' : Hp} (m : Mu) (hf : ∀ i, i < n → m i = μ' i) (hL : ∀ a, m.L a → μ'.L a) : ∀ {v0 v : List V} {d : List D}, DatL K n μ H v0 d → DatL K n' μ' H' v d → DatL K n m H' v d
  | _, _, _, .nil, .nil => .nil
  | _, _, _, .cons h0 t0, .cons h t => .cons (Dat.trim m hf hL h0 h) (DatL.trim m hf hL t0 t)
theorem DatK.trim {K : PySem.W.Frag} {n n' : Nat} {μ μ' : Mu} {H H' : Hp} (m : Mu) (hf : ∀ i, i < n → m i = μ' i) (hL : ∀ a, m.L a → μ'.L a) : ∀ {v0 v : List (Key × V)} {d : List (Key × D)}, DatK K n μ H v0 d → DatK K n' μ' H' v d → DatK K n m H' v d
  | _, _, _, .nil, .nil => .nil
  | _, _, _, .cons _ h0 t0, .cons q h t => .cons q (Dat.trim m hf hL h0 h) (DatK.trim m hf hL t0 t)
end
theorem DatF.trim {K : PySem.W.Frag} {n n' : Nat} {μ μ' : Mu} {H H' : Hp} (m : Mu) (hf : ∀ i, i < n → m i = μ' i) (hL : ∀ a, m.L a → μ'.L a) : ∀ {v0 v : List (Str × V)} {d : List (Str × D)}, DatF K n μ H v0 d → DatF K n' μ' H' v d → DatF K n m H' v d
  | _, _, _, .nil, .nil => .nil
  | _, _, _, .cons h0 t0, .cons h t => .cons (Dat.trim m hf hL h0 h) (DatF.trim m hf hL t0 t)
theorem Rel.trim {μ μ' : Mu} {st st' : Store} {H H' : Hp} (R0 : C.Rel μ st H) (R : C.Rel μ' st' H') (E : Ext st.length μ H st'.length μ' H') (ht : st'.take st.length = st) : C.Rel (mcut μ' st.length st'.length) st H' ∧ Ext st.length μ H st.length (mcut μ' st.length st'.length) H' := by
  have hf : ∀ i, i < st.length → (mcut μ' st.length st'.length) i = μ' i := fun _ _ => rfl
  have hL : ∀ a, (mcut μ' st.length st'.length).L a → μ'.L a := fun a z => z.1
  refine ⟨⟨fun i j hi hj e => R.inj i j (Nat.lt_of_lt_of_le hi E.le) (Nat.lt_of_lt_of_le hj E.le) e, fun i o q => ?_, fun i o q hu => ⟨R.liv i o (by rw [← List.getElem?_take_of_lt (List.getElem?_eq_some_iff.mp q).1, ht]; exact q) hu, fun j h1 h2 z => ?_⟩, fun a z => R.trk a z.1⟩,
    ⟨⟨Nat.le_refl _, fun i hi => E.mu i hi, E.keep, fun i h1 h2 => absurd h1 (by omega), fun a z => ⟨E.lv a z, fun j h1 h2 w => ?_⟩, fun a z => E.fr a z.1, E.tups, E.dom⟩, E.all⟩⟩
  · have hi := (List.getElem?_eq_some_iff.mp q).1
    have q' : st'[i]? = some o := by
      rw [← List.getElem?_take_of_lt hi, ht]; exact q
    have O0 := R0.obj i o q
    have O1 := R.obj i o q'
    cases o with
    | lst ds =>
      obtain ⟨v0, _, d0, _⟩ := O0
      obtain ⟨v1, h1, d1, z1⟩ := O1
      exact ⟨v1, h1, DatL.trim _ hf hL d0 d1, z1⟩
    | dct ds =>
      obtain ⟨v0, _, d0, _⟩ := O0
      obtain ⟨v1, h1, d1, z1⟩ := O1
      exact ⟨v1, h1, DatK.trim _ hf hL d0 d1, z1⟩
    | ins c fs =>
      obtain ⟨x0, v0, _, d0, _⟩ := O0
      obtain ⟨x1, v1, h1, d1, z1⟩ := O1
      exact ⟨x1, v1, h1, DatF.trim _ hf hL d0 d1, z1⟩
    | lck ds =>
      obtain ⟨v0, _, _, d0, _⟩ := O0
      obtain ⟨v1, o1, h1, d1, z1⟩ := O1
      exact ⟨v1, o1, h1, DatK.trim _ hf hL d0 d1, z1⟩
  · have hi := (List.getElem?_eq_some_iff.mp q).1
    have := R.inj j i h2 (Nat.lt_of_lt_of_le hi E.le) z
    omega
  · have q := E.new j h1 h2
    obtain ⟨u, h, _⟩ := R0.trk a z
    rw [w, h] at q; cases q
theorem retF_ok {fzd : Bool} {μ μ' : Mu} {st st' : Store} {H H' : Hp} {d : D} {v : V} {Q : VK} (R0 : C.Rel μ st H) (E : Ext st.length μ H st'.length μ' H') (R : C.Rel μ' st' H') (hd : Dat C.K st'.length μ' H' v d) (h : Post C Dat W σ Q st.length μ H (retF fzd st d st')) : Q v H' := by
  unfold retF at h
  cases fzd with
  | false => exact h v μ' H' E R hd
  | true =>
    rw [if_pos rfl] at h
    by_cases ht : st'.take st.length = st
    · rw [if_pos ht] at h
      cases q : fz 64 st.length st' d with
      | none => rw [q] at h; exact False.elim h
      | some d' =>
        rw [q] at h
        obtain ⟨R1, E1⟩ := R0.trim R E ht
        exact h v _ H' E1 R1 (fz_ok R E.le 64 v d d' hd q)
    · rw [if_neg ht] at h; exact False.elim h
theorem startD_env {K : PySem.W.Frag} {n : Nat} {μ : Mu} {H : Hp} {N : List Str} {vs : List V} {ds : List D} (h : DatL K n μ H vs ds) : EnvR K n μ H (L2.start N vs) (startD N.length ds) := by
  unfold L2.start startD
  refine ⟨by rw [List.length_append, List.length_append, List.length_map, List.length_map, h.length, List.length_replicate, List.length_replicate], fun i d q => ?_⟩
  have hl := h.length
  by_cases hi : i < ds.length
  · rw [List.getElem?_append_left (by simpa using hi), List.getElem?_map] at q
    rw [List.getElem?_append_left (by simp; omega), List.getElem?_map]
    cases e : ds[i]? with
    | none => rw [e] at q; cases q
    | some d' =>
      rw [e] at q
      cases q
      obtain ⟨v, hv, hd⟩ := h.get e
      exact ⟨v, by rw [hv]; rfl, hd⟩
  · rw [List.getElem?_append_right (by simpa using hi), List.getElem?_replicate] at q
    split at q <;> cases q
/-- a def by its body -/
theorem fn_ok {x qual : Str} {sd : Stmt} {f : Addr} {fd : FuncData} {N ps : List Str} {k : Nat} {m : MS} {fzd : Bool} (F : Fun C.K x qual sd f fd) (S : FnScope N ps (defScope sd))
    (hb : ∀ (X : Cx) (W : WX), Gd C k X W → StF X → X.N = N → X.env.scope = defScope sd → X.fn = (fun _ => true) → PSs X (defBody sd) (TDS C W m)) :
    FnOk C.P C.w C.K C.mg C.base (L2.CX C.P C.w) (k + 1) f fd ps (SpOf C ps.length (runF N.length fzd m)) := by
  refine F.okX S (fun vs H Q E h => ?_) (fun cdv A outer s H vs Q E hr h => ?_)
  · obtain ⟨μ, st, ds, _, dl, hk, _⟩ := h
    rw [dl.length]; exact hk
  · obtain ⟨μ, st, ds, R, dl, hk, h⟩ := h
    refine ⟨_, hb _ (fun cls d _ H => E cls d H) ⟨rfl, rfl, rfl, rfl, rfl, rfl, S.nd, hr, takes_of rfl rfl rfl rfl, passes_of rfl⟩ ⟨rfl, rfl⟩ rfl rfl rfl, μ, startD N.length ds, st, R, startD_env dl, ?_⟩
    unfold runF at h
    cases q : m (startD N.length ds) st with
    | no => rw [q] at h; exact h
    | bk ρ st' => rw [q] at h; exact False.elim h
    | ct ρ st' => rw [q] at h; exact False.elim h
    | nx ρ st' => rw [q] at h; exact fun σ' μ' H' e r d => retF_ok R e r .non h
    | rt d st' => rw [q] at h; exact fun v μ' H' e r hd => retF_ok R e r hd h
    | ex x ρ st' => rw [q] at h; exact fun cl dd σ' μ' H' e r d he => h cl dd μ' H' e r he
end
end Mi
/-! Mi11a: objects of own classes: fields, methods, making. -/
namespace Mi
open PySem L2

section
variable {prog : Program} {w : World} {A : Around} {E : Value → Shared → Prop} {s : Shared} {env : Env}
theorem wp_method {o : Expr} {name : Str} {apos pos : Pos} {args : List Expr} {Q : Value → Shared → Prop}
    (hbase : attributeBase o name env (eval o env) = eval o env)
    (hfew : ((backTo pos (starEach args env)).all (fun x => !x.1) && (backToKw pos (keywordEach [] env)).all (fun x => x.1.isSome) && decide (args.length + ([] : List Keyword).length + (if ([] : List Keyword).isEmpty then 0 else 1) < 30)) = true)
    (hline : (apos.endLine == pos.line) = true)
    (h : wpAny (model prog w) A (eval o env) (fun ov s₁ => ∀ pl, wpAny (model prog w) A (getMethod ov name pl) (fun fx s₂ => wpAny (model prog w) A (callWith pos fx.1 fx.2 (backTo pos (starEach args env)) (backToKw pos (keywordEach [] env))) Q E s₂) E s₁) E s) :
    wpAny (model prog w) A (eval (.Call (.Attribute o name apos) args [] pos) env) Q E s := by
  rw [arm_eval_Call, hbase]
  refine wpAny_bind (wpAny_mono h (fun ov s₁ h₁ => ?_) fun _ _ e => e)
  refine wpAny_bind (wpAny_standAt ?_)
  have hform : methodCallForm (args.length + ([] : List Keyword).length) (backTo pos (starEach args env)) (backToKw pos (keywordEach [] env)) = true := hfew
  have hpos : methodCallPos true o env apos pos = pure pos := by unfold methodCallPos; simp [hline]
  unfold methodCall
  rw [hform]
  refine wpAny_bind (wpAny_holding (wpAny_mono (h₁ _) (fun fx s₂ h₂ => ?_) fun _ _ e => e))
  exact wpAny_bind (wpAny_of_eq hpos h₂)
end
section
variable {X : Cx} {CX : CXT} {k : Nat} {E : L2.St → XK} {m : Str} {apos pos : Pos} {o : Expr} {es : List Expr} {ta : TE} {t : TA}
/-- o.m(..), whatever class it is of -/
def tMthD (X : Cx) (CX : CXT) (k : Nat) (E : L2.St → XK) (m : Str) (ta : TE) (t : TA) : TE := fun σ H Q => ta σ H fun x H1 => ∃ (a C dx : Addr) (fs : List (Str × V)) (g : Addr) (fd : FuncData) (ps : List Str) (sp : Sp), x = .ref a ∧ H1 a = some (.ins C dx fs) ∧ Cls X.K C ∧ Meth X.K C m g ∧ fs.lookup m = none ∧
  FnOk X.prog X.w X.K X.mg X.base CX k g fd ps sp ∧ Binds X.K fd ps [] ∧ t σ H1 fun vs H2 => sp (.ref a :: vs) H2 Q (E σ)
theorem pe_mthD {e : Expr} (he : PE X o ta) (hr : Room k X.A) (hx : ∀ σ, PassesAt CX X σ (E σ)) (ha : PA X (e :: es) t)
    (hbase : attributeBase o m X.env (eval o X.env) = eval o X.env)
    (hfew : ((backTo pos (starEach (e :: es) X.env)).all (fun x => !x.1) && (backToKw pos (keywordEach [] X.env)).all (fun x => x.1.isSome) && decide ((e :: es).length + ([] : List Keyword).length + (if ([] : List Keyword).isEmpty then 0 else 1) < 30)) = true)
    (hline : (apos.endLine == pos.line) = true)
    (hst : starEach (e :: es) X.env = (false, eval e X.env) :: starEach es X.env) (hpl : (backTo pos (starEach es X.env)).any (·.1) = false) :
    PE X (.Call (.Attribute o m apos) (e :: es) [] pos) (tMthD X CX k E m ta t) := by
  refine ⟨fun pins s σ H Q I h => ?_⟩
  refine wp_method hbase hfew hline (thn (he.run pins s σ H _ I h) fun u s1 ⟨x, H1, I1, rx, a, C, dx, fs, g, fd, ps, sp, ex, ea, c, hm, l, F, hb, q⟩ => fun pl => ?_)
  subst ex
  obtain rfl : u = Value.ref a := rx
  refine getmeth_ok I1 ea c hm l ?_
  refine PySem.W.callWith_K (first := [.ref a]) (h₀ := X.base) I.ok.mod.kin hm.kp (thn (ha.run pos pins s1 σ H1 _ I1 q) fun us s2 ⟨vs, H2, I2, r, q2⟩ => ⟨I2.kIn, ?_⟩) hst hpl
  exact run_fnSD (us := .ref a :: us) (vs := .ref a :: vs) F hr hb .nil (hx σ) I2 (.cons rfl r) (by rw [List.append_nil]; exact q2)
theorem pe_mthD0 (he : PE X o ta) (hr : Room k X.A) (hx : ∀ σ, PassesAt CX X σ (E σ))
    (hbase : attributeBase o m X.env (eval o X.env) = eval o X.env) (hline : (apos.endLine == pos.line) = true) :
    PE X (.Call (.Attribute o m apos) [] [] pos) (tMthD X CX k E m ta tNil) := by
  refine ⟨fun pins s σ H Q I h => ?_⟩
  refine wp_method hbase rfl hline (thn (he.run pins s σ H _ I h) fun u s1 ⟨x, H1, I1, rx, a, C, dx, fs, g, fd, ps, sp, ex, ea, c, hm, l, F, hb, q⟩ => fun pl => ?_)
  subst ex
  obtain rfl : u = Value.ref a := rx
  refine getmeth_ok I1 ea c hm l ?_
  refine PySem.W.callWith_K0 (first := [.ref a]) I1.kIn hm.kp ?_
  exact run_fnSD (us := [.ref a]) (vs := [.ref a]) F hr hb .nil (hx σ) I1 (.cons rfl .nil) q
/-- C(..) -/
def tMakeD (C : Addr) (sp : Sp) (E : L2.St → XK) (t : TA) : TE := fun σ H Q => t σ H fun vs H1 => ∀ x dx, H1 x = none → H1 dx = none → dx ≠ x →
  sp (.ref x :: vs) (upd (upd H1 dx (.own x)) x (.ins C dx [])) (fun v H2 => v = .non ∧ Q (.ref x) H2) (E σ)
theorem run_makeD {C f : Addr} {fd : FuncData} {ps : List Str} {sp : Sp} {pins : List (Addr × Obj)} {σ : L2.St} {H : Hp} {s : Shared} {Q : VK} {us : List Value} {vs : List V} (M : Mk X.K C f) (F : FnOk X.prog X.w X.K X.mg X.base CX k f fd ps sp) (hr : Room (k + 1) X.A) (hb : Binds X.K fd ps [])
    (hx : PassesAt CX X σ (E σ)) (I : Inv X pins σ H s) (r : Vals vs us)
    (h : ∀ x dx, H x = none → H dx = none → dx ≠ x → sp (.ref x :: vs) (upd (upd H dx (.own x)) x (.ins C dx [])) (fun v H2 => v = .non ∧ Q (.ref x) H2) (E σ)) :
    wpAny (model X.prog X.w) X.A (call (.ref C) us) (EP X pins σ Q) X.xe s := by
  have hq := h (s.heap.objs.size + 1) s.heap.objs.size (I.hok.fresh (Nat.le_succ _)) (I.hok.fresh (Nat.le_refl _)) (Nat.ne_of_lt (Nat.lt_succ_self _))
  have I2 := Inv.made (C := C) I
  have r2 : Vals (V.ref (s.heap.objs.size + 1) :: vs) (Value.ref (s.heap.objs.size + 1) :: us) := .cons rfl r
  have hl : (Value.ref (s.heap.objs.size + 1) :: us ++ []).length = ps.length := by
    have e := r2.length
    rw [F.len _ _ _ _ hq] at e
    rw [List.append_nil]; exact e.symm
  have hb' := hb _ (Value.ref (s.heap.objs.size + 1) :: us) I2.kIn hl
  rw [List.append_nil] at hb'
  refine wpAny_call (make_map (f := f) I.kIn M.makes M.init (beq_iff_eq.mp M.fn) (codeAny_mono (F.run _ X.stack _ _ ⟨Value.ref (s.heap.objs.size + 1) :: us, []⟩ (Value.ref (s.heap.objs.size + 1) :: us) _ _ (E σ) (hr.make C us [])
    (I2.env0.make C us []) hb' r2 hq) fun r s' hq' => ?_))
  cases r with
  | error e => exact hx pins _ _ e s' I2 hq'
  | ok fl =>
    cases fl with
    | ret u =>
      obtain ⟨v, H', I3, rv, ev, q3⟩ := I2.after hq'
      subst ev
      exact ⟨rv, ⟨V.ref (s.heap.objs.size + 1), H', I3, rfl, q3⟩⟩
    | next => exact False.elim hq'
    | brk => exact False.elim hq'
    | cont => exact False.elim hq'
theorem pe_makeD {C f : Addr} {fd : FuncData} {ps : List Str} {sp : Sp} {x : Str} {p : Pos} {e : Expr} (M : Mk X.K C f) (F : FnOk X.prog X.w X.K X.mg X.base CX k f fd ps sp) (hr : Room (k + 1) X.A) (hg : L2.Gl X x) (hm : X.mg x = some (.ref C)) (hb : Binds X.K fd ps []) (hx : ∀ σ, PassesAt CX X σ (E σ))
    (ha : PA X (e :: es) t) (hdb : (x == ("__debug__" : Str)) = false) (he : starEach (e :: es) X.env = (false, eval e X.env) :: starEach es X.env) (hpl : (backTo pos (starEach es X.env)).any (·.1) = false) :
    PE X (.Call (.Name x p) (e :: es) [] pos) (tMakeD C sp E t) := by
  refine ⟨fun pins s σ H Q I h => ?_⟩
  refine wpAny_Call_Name_kw (ld_glob I hg hm ?_ hdb)
  refine PySem.W.callWith_K (h₀ := X.base) I.ok.mod.kin M.kp (thn (ha.run pos pins s σ H _ I h) fun us s1 ⟨vs, H1, I1, r, q⟩ => ⟨I1.kIn, ?_⟩) he hpl
  exact run_makeD M F hr hb (hx σ) I1 r q
theorem pe_makeD0 {C f : Addr} {fd : FuncData} {ps : List Str} {sp : Sp} {x : Str} {p : Pos} (M : Mk X.K C f) (F : FnOk X.prog X.w X.K X.mg X.base CX k f fd ps sp) (hr : Room (k + 1) X.A) (hg : L2.Gl X x) (hm : X.mg x = some (.ref C)) (hb : Binds X.K fd ps []) (hx : ∀ σ, PassesAt CX X σ (E σ))
    (hdb : (x == ("__debug__" : Str)) = false) : PE X (.Call (.Name x p) [] [] pos) (tMakeD C sp E tNil) := by
  refine ⟨fun pins s σ H Q I h => ?_⟩
  refine wpAny_Call_Name_kw (ld_glob I hg hm ?_ hdb)
  exact PySem.W.callWith_K0 I.kIn M.kp (run_makeD (us := []) M F hr hb (hx σ) I .nil h)
end
end Mi
/-! Mi11b: .. as functions of data. -/
namespace Mi
open PySem L2

/-- the object behind a reference -/
def insAt (st : Store) : D → Option (Nat × List (Str × D))
  | .ref i => match st[i]? with
    | some (.ins c fs) => some (c, fs)
    | _ => none
  | _ => none
def putD (f : Str) (v : D) : List (Str × D) → List (Str × D)
  | [] => [(f, v)]
  | (g, x) :: r => if g = f then (g, v) :: r else (g, x) :: putD f v r
def mAttr (fld : Nat → List Str) (f : Str) (o : M D) : M D := fun ρ st => (o ρ st).bind fun d st1 => match insAt st1 d with
  | some (c, fs) => if f ∈ fld c then (match fs.lookup f with
    | some x => .ok x st1
    | none => .no) else .no
  | none => .no
def mMth (mth : Nat → Str → Option (Nat × Nat)) (call : Nat → Fn) (m : Str) (o : M D) (a : M (List D)) : M D := fun ρ st => (o ρ st).bind fun d st1 => match insAt st1 d with
  | some (c, fs) => match mth c m, fs.lookup m with
    | some (i, n), none => (a ρ st1).bind fun ds st2 => if ds.length = n then call i (d :: ds) st2 else .no
    | _, _ => .no
  | none => .no
def isNonO (x : D) : D → Store → O D
  | .non, st => .ok x st
  | _, _ => .no
def mMake (c n : Nat) (f : Fn) (a : M (List D)) : M D := fun ρ st => (a ρ st).bind fun ds st1 => if ds.length = n then (f (.ref st1.length :: ds) (st1 ++ [.ins c []])).bind (isNonO (.ref st1.length)) else .no
/-- o.f = v in the store -/
def setAt (fld : Nat → List Str) (f : Str) (x : D) (st : Store) (ρ : Rho) : D → OS
  | .ref i => match st[i]? with
    | some (.ins c fs) => if f ∈ fld c ∧ fs.length < 800 then .nx ρ (st.set i (.ins c (putD f x fs))) else .no
    | _ => .no
  | _ => .no
def sAtr (fld : Nat → List Str) (f : Str) (v o : M D) : MS := fun ρ st => (v ρ st).toS ρ fun x st1 => (o ρ st1).toS ρ fun d st2 => setAt fld f x st2 ρ d
/-- o.f += v of whole numbers -/
def sAtrAdd (fld : Nat → List Str) (f : Str) (o v : M D) : MS := fun ρ st => (o ρ st).toS ρ fun d st1 => match insAt st1 d with
  | some (c, fs) => if f ∈ fld c then (match fs.lookup f with
    | some (.int i) => (v ρ st1).toS ρ fun y st2 => (match y with
      | .int j => if (insAt st2 d).map (·.1) = some c then setAt fld f (.int (i + j)) st2 ρ d else .no
      | _ => .no)
    | _ => .no) else .no
  | none => .no

section
variable {C : Cf} {X : Cx} {W : WX} {σ : L2.St} {H : Hp} {μ : Mu} {st : Store} {K : PySem.W.Frag} {n : Nat}
theorem DatF.look : ∀ {vs : List (Str × V)} {ds : List (Str × D)} {f : Str}, DatF K n μ H vs ds → (∀ d, ds.lookup f = some d → ∃ v, vs.lookup f = some v ∧ Dat K n μ H v d) ∧ (ds.lookup f = none → vs.lookup f = none)
  | _, _, f, .nil => ⟨fun d h => (nomatch h), fun _ => rfl⟩
  | _, _, f, .cons (k := k) (v := v) (vs := vs) (d := d) (ds := ds) h t => by
    have ih := DatF.look (f := f) t
    rw [List.lookup_cons, List.lookup_cons]
    cases q : f == k with
    | true => exact ⟨fun d' h' => (by cases h'; exact ⟨v, rfl, h⟩), fun h' => nomatch h'⟩
    | false => exact ih
theorem DatF.put {f : Str} {v : V} {d : D} (hd : Dat K n μ H v d) : ∀ {vs : List (Str × V)} {ds : List (Str × D)}, DatF K n μ H vs ds → DatF K n μ H (putF f v vs) (putD f d ds)
  | _, _, .nil => .cons hd .nil
  | _, _, .cons (k := k) h t => by
    show DatF K n μ H (if k = f then _ else _) (if k = f then _ else _)
    by_cases q : k = f
    · rw [if_pos q, if_pos q]; exact .cons hd t
    · rw [if_neg q, if_neg q]; exact .cons h (DatF.put hd t)
theorem putD_len (f : Str) (v : D) : ∀ fs : List (Str × D), (putD f v fs).length ≤ fs.length + 1
  | [] => Nat.le_refl _
  | (g, x) :: r => by
    show (if g = f then (g, v) :: r else (g, x) :: putD f v r).length ≤ _
    split
    · simp
    · simp only [List.length_cons]; have := putD_len f v r; omega
theorem insAt_ok (R : C.Rel μ st H) {v : V} {d : D} {c : Nat} {fs : List (Str × D)} (hd : Dat C.K st.length μ H v d) (h : insAt st d = some (c, fs)) : ∃ i dx vs, d = .ref i ∧ i < st.length ∧ st[i]? = some (.ins c fs) ∧ v = .ref (μ i) ∧ H (μ i) = some (.ins (C.cls c) dx vs) ∧ DatF C.K st.length μ H vs fs ∧ fs.length ≤ 900 := by
  cases d with
  | ref i =>
    have h' : (match st[i]? with
      | some (.ins c fs) => some (c, fs)
      | _ => none) = some (c, fs) := h
    cases q : st[i]? with
    | none => rw [q] at h'; cases h'
    | some o =>
      rw [q] at h'
      cases o with
      | ins c' fs' =>
        cases h'
        cases hd with
        | ref hi =>
          obtain ⟨dx, vs, h1, h2, h3⟩ := R.obj i _ q
          exact ⟨i, dx, vs, rfl, hi, q, rfl, h1, h2, h3⟩
      | lst _ => cases h'
      | dct _ => cases h'
      | lck _ => cases h'
  | _ => cases h
/-- what is known of the classes -/
structure ClsOk (C : Cf) (fld : Nat → List Str) : Prop where
  at_ : ∀ c f, f ∈ fld c → Cls C.K (C.cls c) ∧ NoAttr C.K (C.cls c) f
theorem td_attr {fld : Nat → List Str} (ok : ClsOk C fld) (hK : X.K = C.K) {f : Str} {o : M D} {Q : VK} (h : TD C W (mAttr fld f o) σ H Q) : tFld X.K (TD C W o) f σ H Q := by
  obtain ⟨μ, ρ, st, R, E, h⟩ := h
  refine ⟨μ, ρ, st, R, E, (Post.bind (R := Dat) h).imp fun v H1 ⟨d, st1, μ1, _, e1, R1, d1, h1⟩ => ?_⟩
  cases q : insAt st1 d with
  | none => simp only [q] at h1; exact False.elim h1
  | some cf =>
    obtain ⟨c, fs⟩ := cf
    simp only [q] at h1
    obtain ⟨i, dx, vs, rfl, hi, _, rfl, g1, g2, _⟩ := insAt_ok R1 d1 q
    by_cases hf : f ∈ fld c
    · rw [if_pos hf] at h1
      obtain ⟨k1, k2⟩ := ok.at_ c f hf
      cases q2 : fs.lookup f with
      | none => simp only [q2] at h1; exact False.elim h1
      | some x =>
        simp only [q2] at h1
        obtain ⟨u, g3, g4⟩ := (g2.look (f := f)).1 x q2
        exact ⟨μ1 i, C.cls c, dx, vs, u, rfl, g1, by rw [hK]; exact k1, by rw [hK]; exact k2, g3, Post.now R1 h1 g4⟩
    · rw [if_neg hf] at h1; exact False.elim h1
theorem sp_of {k : Nat} {f : Fn} {ds : List D} {vs : List V} {Q : VK} (R : C.Rel μ st H) (d1 : DatL C.K st.length μ H vs ds) (hk : ds.length = k) (h : Post C Dat W σ Q st.length μ H (f ds st)) : SpOf C k f vs H Q (WE W σ) := by
  refine ⟨μ, st, ds, R, d1, hk, ?_⟩
  cases q : f ds st with
  | no => rw [q] at h; exact h
  | ok d st2 => rw [q] at h; exact h
  | ex x st2 => rw [q] at h; exact h
/-- what is known of the methods -/
structure MthOk (C : Cf) (mth : Nat → Str → Option (Nat × Nat)) (call : Nat → Fn) (k : Nat) : Prop where
  at_ : ∀ c m i n, mth c m = some (i, n) → Cls C.K (C.cls c) ∧ ∃ f fd ps, Meth C.K (C.cls c) m f ∧ Binds C.K fd ps [] ∧ FnOk C.P C.w C.K C.mg C.base (L2.CX C.P C.w) k f fd ps (SpOf C (n + 1) (call i))
theorem td_mth {mth : Nat → Str → Option (Nat × Nat)} {call : Nat → Fn} {k : Nat} (ok : MthOk C mth call k) (g : Gd C k X W) {m : Str} {o : M D} {a : M (List D)} {t : TA} (ht : ∀ σ H Q, TDA C W a σ H Q → t σ H Q) {Q : VK} (h : TD C W (mMth mth call m o a) σ H Q) :
    tMthD X (L2.CX X.prog X.w) k (WE W) m (TD C W o) t σ H Q := by
  obtain ⟨μ, ρ, st, R, E, h⟩ := h
  refine ⟨μ, ρ, st, R, E, (Post.bind (R := Dat) h).imp fun v H1 ⟨d, st1, μ1, _, e1, R1, d1, h1⟩ => ?_⟩
  cases q : insAt st1 d with
  | none => simp only [q] at h1; exact False.elim h1
  | some cf =>
    obtain ⟨c, fs⟩ := cf
    simp only [q] at h1
    obtain ⟨i, dx, vs, rfl, hi, _, rfl, g1, g2, _⟩ := insAt_ok R1 d1 q
    cases q2 : mth c m with
    | none => simp only [q2] at h1; exact False.elim h1
    | some jn =>
      obtain ⟨j, nn⟩ := jn
      cases q3 : fs.lookup m with
      | some _ => simp only [q2, q3] at h1; exact False.elim h1
      | none =>
        simp only [q2, q3] at h1
        obtain ⟨k1, f, fd, ps, k2, k3, k4⟩ := ok.at_ c m j nn q2
        refine ⟨μ1 i, C.cls c, dx, vs, f, fd, ps, _, rfl, g1, by rw [g.K]; exact k1, by rw [g.K]; exact k2, (g2.look (f := m)).2 q3, by rw [g.P, g.w, g.K, g.mg, g.base]; exact k4, by rw [g.K]; exact k3, ht _ _ _ ?_⟩
        refine ⟨μ1, ρ, st1, R1, E.ext e1, (Post.bind (R := DatL) h1).imp fun us H2 ⟨ds, st2, μ2, _, e2, R2, d2, h2⟩ => ?_⟩
        by_cases hk : ds.length = nn
        · rw [if_pos hk] at h2
          exact sp_of R2 (.cons (d1.ext e2) d2) (by rw [List.length_cons, hk]) h2
        · rw [if_neg hk] at h2; exact False.elim h2
theorem td_make {c nn : Nat} {f : Fn} {a : M (List D)} {t : TA} (ht : ∀ σ H Q, TDA C W a σ H Q → t σ H Q) {Q : VK} (h : TD C W (mMake c nn f a) σ H Q) : tMakeD (C.cls c) (SpOf C (nn + 1) f) (WE W) t σ H Q := by
  obtain ⟨μ, ρ, st, R, E, h⟩ := h
  refine ht _ _ _ ⟨μ, ρ, st, R, E, (Post.bind (R := DatL) h).imp fun vs H1 ⟨ds, st1, μ1, _, e1, R1, d1, h1⟩ x dx hx hdx ne => ?_⟩
  by_cases hk : ds.length = nn
  · rw [if_pos hk] at h1
    obtain ⟨E2, _⟩ := R1.fresh (o := .own x) hdx
    have R2 := R1.upd (o := .own x) hdx
    have hx2 : (upd H1 dx (.own x)) x = none := by rw [upd_ne (fun z => ne z.symm)]; exact hx
    have E3 := R2.ext_new (o := .ins (C.cls c) dx []) hx2
    have R3 : C.Rel (mset μ1 st1.length x) (st1 ++ [.ins c []]) (upd (upd H1 dx (.own x)) x (.ins (C.cls c) dx [])) := R2.alloc hx2 (fun _ z => by cases z) (fun _ _ z => by cases z) ⟨dx, [], upd_same, .nil, Nat.zero_le _⟩
    have el : (st1 ++ [Ob.ins c []]).length = st1.length + 1 := by simp
    have dx' : Dat C.K (st1 ++ [Ob.ins c []]).length (mset μ1 st1.length x) (upd (upd H1 dx (.own x)) x (.ins (C.cls c) dx [])) (.ref x) (.ref st1.length) := by
      have := Dat.ref (K := C.K) (n := (st1 ++ [Ob.ins c []]).length) (μ := mset μ1 st1.length x) (H := upd (upd H1 dx (.own x)) x (.ins (C.cls c) dx [])) (i := st1.length) (by rw [el]; omega)
      rwa [mset_at] at this
    have E4 : Ext st1.length μ1 H1 (st1 ++ [Ob.ins c []]).length (mset μ1 st1.length x) (upd (upd H1 dx (.own x)) x (.ins (C.cls c) dx [])) := by rw [el]; exact E2.trans E3
    refine sp_of R3 (.cons dx' (d1.ext E4)) (by rw [List.length_cons, hk]) (W := W) (σ := σ) ?_
    refine (Post.bind (R := Dat) (Post.go E4 h1)).imp fun v H2 ⟨d, st2, μ2, _, e2, R4, d2, h2⟩ => ?_
    cases d2 with
    | non => exact ⟨rfl, Post.now R4 h2 (dx'.ext e2)⟩
    | _ => exact False.elim h2
  · rw [if_neg hk] at h1; exact False.elim h1
theorem setAt_ok {fld : Nat → List Str} (ok : ClsOk C fld) {f : Str} {x : D} {y v : V} {d : D} {ρ : Rho} {D : Ends} (R : C.Rel μ st H) (E : C.Env st.length μ H σ ρ) (hy : Dat C.K st.length μ H y x) (hd : Dat C.K st.length μ H v d) (h : PostS C W D st.length μ H (setAt fld f x st ρ d)) :
    ∃ i c dx fs, d = .ref i ∧ v = .ref (μ i) ∧ H (μ i) = some (.ins (C.cls c) dx fs) ∧ Cls C.K (C.cls c) ∧ NoAttr C.K (C.cls c) f ∧ fs.length < 1000 ∧ D.nx σ (upd H (μ i) (.ins (C.cls c) dx (putF f y fs))) ∧ ∃ fsD, insAt st d = some (c, fsD) := by
  cases d with
  | ref i =>
    have h' : PostS C W D st.length μ H (match st[i]? with
      | some (.ins c fs) => if f ∈ fld c ∧ fs.length < 800 then .nx ρ (st.set i (.ins c (putD f x fs))) else .no
      | _ => .no) := h
    cases q : st[i]? with
    | none => rw [q] at h'; exact False.elim h'
    | some o =>
      rw [q] at h'
      cases o with
      | ins c fs =>
        dsimp only at h'
        by_cases hc : f ∈ fld c ∧ fs.length < 800
        · rw [if_pos hc] at h'
          have qi : insAt st (.ref i) = some (c, fs) := by
            show (match st[i]? with
              | some (.ins c fs) => some (c, fs)
              | _ => none) = _
            rw [q]
          obtain ⟨i', dx, vs, e, hi, _, ev, g1, g2, _⟩ := insAt_ok (c := c) (fs := fs) R hd qi
          cases e
          obtain ⟨k1, k2⟩ := ok.at_ c f hc.1
          have E2 := R.ext_set (o := .ins (C.cls c) dx (putF f y vs)) q rfl
          have el : (st.set i (.ins c (putD f x fs))).length = st.length := List.length_set
          refine ⟨i, c, dx, vs, rfl, ev, g1, k1, k2, by rw [g2.length]; omega, h' σ μ _ (by rw [el]; exact E2) ?_ (by rw [el]; exact E.ext E2), fs, qi⟩
          refine R.set q rfl (fun _ z => by cases z) (fun _ _ z => by cases z) ⟨dx, _, upd_same, (DatF.put hy g2).ext E2, ?_⟩
          have := putD_len f x fs
          omega
        · rw [if_neg hc] at h'; exact False.elim h'
      | lst _ => exact False.elim h'
      | dct _ => exact False.elim h'
      | lck _ => exact False.elim h'
  | _ => exact False.elim h
theorem td_sAtr {fld : Nat → List Str} (ok : ClsOk C fld) (hK : X.K = C.K) {f : Str} {v o : M D} {D : Ends} (h : TDS C W (sAtr fld f v o) D σ H) : sFld X.K (TD C W o) (TD C W v) f D σ H := by
  obtain ⟨μ, ρ, st, R, E, h⟩ := h
  refine td_first (R := Dat) (k := fun x ρ st1 => (o ρ st1).toS ρ fun d st2 => setAt fld f x st2 ρ d) R E h fun y x st1 μ1 H1 _ e1 R1 E1 d1 h1 => ?_
  refine td_first (R := Dat) (k := fun d ρ st2 => setAt fld f x st2 ρ d) R1 E1 h1 fun u d st2 μ2 H2 _ e2 R2 E2 d2 h2 => ?_
  obtain ⟨i, c, dx, fs, rfl, rfl, g1, g2, g3, g4, g5, _⟩ := setAt_ok ok R2 E2 (d1.ext e2) d2 h2
  exact ⟨_, _, dx, fs, rfl, g1, by rw [hK]; exact g2, by rw [hK]; exact g3, g4, g5⟩
theorem td_sAtrAdd {fld : Nat → List Str} (ok : ClsOk C fld) (hK : X.K = C.K) {f : Str} {v o : M D} {D : Ends} (h : TDS C W (sAtrAdd fld f o v) D σ H) : sFldAug X.K (TD C W o) (TD C W v) rAdd f D σ H := by
  obtain ⟨μ, ρ, st, R, E, h⟩ := h
  refine td_first (R := Dat) (k := fun d ρ st1 => match insAt st1 d with
    | some (c, fs) => if f ∈ fld c then (match fs.lookup f with
      | some (.int i) => (v ρ st1).toS ρ fun y st2 => (match y with
        | .int j => if (insAt st2 d).map (·.1) = some c then setAt fld f (.int (i + j)) st2 ρ d else .no
        | _ => .no)
      | _ => .no) else .no
    | none => .no) R E h fun u d st1 μ1 H1 _ e1 R1 E1 d1 h1 => ?_
  cases q : insAt st1 d with
  | none => simp only [q] at h1; exact False.elim h1
  | some cf =>
    obtain ⟨c, fs⟩ := cf
    simp only [q] at h1
    obtain ⟨i, dx, vs, rfl, hi, _, rfl, g1, g2, _⟩ := insAt_ok R1 d1 q
    by_cases hf : f ∈ fld c
    · rw [if_pos hf] at h1
      obtain ⟨k1, k2⟩ := ok.at_ c f hf
      cases q2 : fs.lookup f with
      | none => simp only [q2] at h1; exact False.elim h1
      | some x =>
        simp only [q2] at h1
        obtain ⟨u, g3, g4⟩ := (g2.look (f := f)).1 x q2
        cases x with
        | int z =>
          cases g4
          refine ⟨μ1 i, C.cls c, dx, vs, .int z, rfl, g1, by rw [hK]; exact k1, by rw [hK]; exact k2, g3, ?_⟩
          refine td_first (R := Dat) (k := fun y ρ st2 => (match y with
            | .int j => if (insAt st2 (.ref i)).map (·.1) = some c then setAt fld f (.int (z + j)) st2 ρ (.ref i) else .no
            | _ => .no)) R1 E1 h1 fun y x st2 μ2 H2 _ e2 R2 E2 d2 h2 => ?_
          cases d2 with
          | int j =>
            dsimp only at h2
            by_cases hcc : (insAt st2 (.ref i)).map (·.1) = some c
            · rw [if_pos hcc] at h2
              refine ⟨z, j, rfl, rfl, ?_⟩
              obtain ⟨i', c', dx', fs', e, ev, p1, p2, p3, p4, p5, fsD, p6⟩ := setAt_ok ok R2 E2 (.int (z + j)) (d1.ext e2) h2
              cases e
              have em : μ2 i = μ1 i := e2.mu i hi
              rw [p6] at hcc
              cases hcc
              rw [em] at p1 p5
              exact ⟨dx', fs', p1, p4, p5⟩
            · rw [if_neg hcc] at h2; exact False.elim h2
          | _ => exact False.elim h2
        | _ => exact False.elim h1
    · rw [if_neg hf] at h1; exact False.elim h1
end
end Mi
/-! Mi11c: xs[::k] for k = 1, -1. -/
namespace Mi
open PySem PySem.Spec PyProof.Rows L2
section
variable {X : Cx} {e : Expr} {step : Expr} {te : TE} {ts : TO} {p2 pos : Pos}
theorem pick_one (its : List Value) : slicePick its.toArray none none (some 1) = its.toArray := by
  have h := slicePick_cut its none none
  have e : slicePick its.toArray none none (some 1) = slicePick its.toArray none none none := rfl
  rw [e, h]
  simp [HT.sIx]
def tStep (K : PySem.W.Frag) (te : TE) (ts : TO) : TE := fun σ H Q => te σ H fun x H1 => ts σ H1 fun k H2 => ∃ (a : Addr) (xs : List V), x = .ref a ∧ SqL K H2 a xs ∧
  ((k = some (-1) ∧ ∀ p, H2 p = none → Q (.ref p) (upd H2 p (.lst xs.reverse))) ∨ (k = some 1 ∧ ∀ p, H2 p = none → Q (.ref p) (upd H2 p (.lst xs))))
theorem vals_rev : ∀ {xs : List V} {us : List Value}, Vals xs us → Vals xs.reverse us.reverse
  | _, _, .nil => .nil
  | _, _, .cons h t => by
    rw [List.reverse_cons, List.reverse_cons]
    exact (vals_rev t).append (.cons h .nil)
theorem pe_step (he : PE X e te) (hs : PO X (some step) ts) : PE X (.Subscript e (.Slice none none (some step) p2) pos) (tStep X.K te ts) := by
  refine ⟨fun pins s σ H Q I h => ?_⟩
  refine Subscript_ (thn (he.run pins s σ H _ I h) fun v s1 ⟨x, H1, I1, r1, q1⟩ => ?_)
  refine wpAny_Slice ?_
  rw [evalPart_none]
  refine wpAny_pure (wpAny_pure (thn (hs.run pins s1 σ H1 _ I1 q1) fun vk s3 ⟨k, H3, I3, pk, a, xs, ex, hx, q3⟩ => ?_))
  subst ex
  obtain rfl : v = Value.ref a := r1
  have I4 : Inv X pins σ H3 { s3 with heap := s3.heap.push { cls := .type "slice", data := .fields #[.none, .none, vk] } } := I3.kept (t' := s3.toks) fun b ob q => Heap.get?_push_of_some _ q
  obtain ⟨its, r, ht, hz⟩ := I4.list hx
  have hlen := r.length
  have key : ∀ (zs : List V) (ws : List Value), Vals zs ws → zs.length ≤ sizeLine → slicePick its.toArray none none k = ws.toArray → k ≠ some 0 → (∀ p, H3 p = none → Q (.ref p) (upd H3 p (.lst zs))) →
      wpAny (model X.prog X.w) X.A (getItem (.ref a) (.ref s3.heap.objs.size)) (EP X pins σ Q) X.xe { s3 with heap := s3.heap.push { cls := .type "slice", data := .fields #[.none, .none, vk] } } := fun zs ws rz hl ep hk q => by
    refine wpAny_getItem_list_slice ht.isList (Heap.IsSliceOf.new ..) .none .none pk hk ?_ (by rw [List.size_toArray] <;> omega)
    rw [ep]
    refine ⟨.ref _, _, I4.laid (t' := s3.toks) (o := .lst zs) (fun b ob q => Heap.get?_push_of_some _ q) (Nat.le_refl _) ?_, rfl, q _ (I4.hok.fresh (Nat.le_refl _))⟩
    exact ⟨hl, _, 0, rz, Heap.get?_push_size _ rfl⟩
  show wpAny (model X.prog X.w) X.A (subscriptTail e (.Slice none none (some step) p2) (.ref a) (.ref s3.heap.objs.size)) (EP X pins σ Q) X.xe { s3 with heap := s3.heap.push { cls := .type "slice", data := .fields #[.none, .none, vk] } }
  refine tail_any (ops := [.ref a, .ref s3.heap.objs.size]) ht.isList.typeIs slot_list_getitem.lookup ?_ (by with_unfolding_all rfl)
  rcases q3 with ⟨rfl, q⟩ | ⟨rfl, q⟩
  · exact key xs.reverse its.reverse (vals_rev r) (by rw [List.length_reverse]; omega) (PySem.W.krv_pick _) (by decide) q
  · exact key xs its r (by omega) (pick_one its) (by decide) q
end
/-- xs[::k] -/
def dStep (m : Bool) (a : D) (k : Option Int) (st : Store) : O D := match Mi.listOf st a with
  | some xs => if k = some (-1) then mkL m xs.reverse st else if k = some 1 then mkL m xs st else .no
  | none => .no
def mStep (m : Bool) (a : M D) (k : M (Option Int)) : M D := fun ρ st => (a ρ st).bind fun x st1 => (k ρ st1).bind fun j st2 => dStep m x j st2
section
variable {C : Cf} {X : Cx} {W : WX} {σ : L2.St} {H : Hp} {μ : Mu} {st : Store} {K : PySem.W.Frag} {n : Nat}
theorem DatL.app : ∀ {vs ws : List V} {ds es : List D}, DatL K n μ H vs ds → DatL K n μ H ws es → DatL K n μ H (vs ++ ws) (ds ++ es)
  | _, _, _, _, .nil, h => h
  | _, _, _, _, .cons h t, h2 => .cons h (DatL.app t h2)
theorem DatL.rev : ∀ {vs : List V} {ds : List D}, DatL K n μ H vs ds → DatL K n μ H vs.reverse ds.reverse
  | _, _, .nil => .nil
  | _, _, .cons h t => by
    rw [List.reverse_cons, List.reverse_cons]
    exact DatL.app (DatL.rev t) (.cons h .nil)
theorem td_step (hK : X.K = C.K) {m : Bool} {a : M D} {k : M (Option Int)} {Q : VK} (h : TD C W (mStep m a k) σ H Q) : tStep X.K (TD C W a) (TDO C W k) σ H Q := by
  obtain ⟨μ, ρ, st, R, E, h⟩ := h
  refine ⟨μ, ρ, st, R, E, (Post.bind (R := Dat) h).imp fun v H1 ⟨x, st1, μ1, _, e1, R1, d1, h1⟩ => ?_⟩
  refine ⟨μ1, ρ, st1, R1, E.ext e1, (Post.bind (R := RO) h1).imp fun l H2 ⟨j, st2, μ2, _, e2, R2, d2, h2⟩ => ?_⟩
  obtain rfl : l = j := d2
  unfold dStep at h2
  cases q : Mi.listOf st2 x with
  | none => rw [q] at h2; exact False.elim h2
  | some xs =>
    rw [q] at h2
    dsimp only at h2
    obtain ⟨p, vs, rfl, g1, g2, g3⟩ := listOf_ok R2 (d1.ext e2) q
    refine ⟨p, vs, rfl, by rw [hK]; exact g1, ?_⟩
    by_cases hk : l = some (-1)
    · rw [if_pos hk] at h2
      exact .inl ⟨hk, fun z hz => newL R2 h2 g2.rev hz⟩
    · rw [if_neg hk] at h2
      by_cases hk1 : l = some 1
      · rw [if_pos hk1] at h2
        exact .inr ⟨hk1, fun z hz => newL R2 h2 g2 hz⟩
      · rw [if_neg hk1] at h2; exact False.elim h2
end
end Mi
/-! Mi11d: len(set(xs)) of texts. -/
namespace Mi
open PySem PySem.Spec PyProof.Rows L2
/-- how many texts there are in xs -/
def cntS : List Str → Nat
  | [] => 0
  | x :: r => if r.any (· == x) then cntS r else cntS r + 1
/-- met so far, the last one first -/
def metS (xs : List Str) (i : Nat) : List Str := (xs.take i).reverse
theorem metS_succ {xs : List Str} {i : Nat} (h : i < xs.length) : metS xs (i + 1) = xs.getD i Str.empty :: metS xs i := by
  unfold metS
  rw [List.take_succ, List.getElem?_eq_getElem h, List.reverse_append, List.getD_eq_getElem?_getD, List.getElem?_eq_getElem h]
  rfl
theorem cntS_le : ∀ xs : List Str, cntS xs ≤ xs.length
  | [] => Nat.le_refl _
  | x :: r => by
    have := cntS_le r
    unfold cntS
    split <;> simp only [List.length_cons] <;> omega
section
variable {prog : Program} {w : World} {A : Around} {R : Result → Shared → Prop} {J : Addr} {fp wr : List Addr} {G : Array GenState → Array GenState → Prop} {n : Nat} {P : Nat → Value → Prop} {St : Nat → Shared → Prop}
/-- what the set holds behind i turns -/
abbrev SetI (prog : Program) (w : World) (h : Heap) (S : Addr) (xs : List Str) (i : Nat) : Prop := h.SetOf (PySem.strKind prog w) S (fun k' => (metS xs i).any (· == k')) (cntS (metS xs i))
theorem SetI.moved {xs : List Str} {i : Nat} {h h' : Heap} {S : Addr} (hs : SetI prog w h S xs i) (k : ∀ o, h.get? S = some o → h'.get? S = some o) : SetI prog w h' S xs i := by
  obtain ⟨o, es, ep, t, ho, rest⟩ := hs
  exact ⟨o, es, ep, t, k _ ho, rest⟩
theorem set_texts (V : WalksS prog w A.in1 J fp wr G n P St) (S : Addr) (hSf : S ∉ fp) (xs : List Str) (hn : xs.length = n) (hb : n + 1 < scanBound) (hv : ∀ i v, P i v → ∃ t, v = .str (xs.getD i Str.empty) t) :
    ∀ (k i : Nat) (s : Shared), n - i = k → i ≤ n → St i s → SetI prog w s.heap S xs i → (∀ s', Moved (S :: wr) G s s' → SetI prog w s'.heap S xs n → R (.ok (.ret .none)) s') →
      codeAny (model prog w) A (.builtin "set.update.loop" ⟨[.ref S, .ref J], []⟩) R s := by
  have hw : S ∉ wr := fun z => hSf (V.sub _ z)
  have up : ∀ b ∈ wr, b ∈ S :: wr := fun b z => List.mem_cons_of_mem _ z
  intro k
  induction k with
  | zero =>
    intro i s hk hi hst hS hR
    obtain rfl : i = n := by omega
    refine codeAny_builtin PyProof.Rows.F.entry_set_update_loop ?_
    rw [Around.under_plainId PyProof.Rows.F.plain_set_update_loop _]
    show wpAny _ A.in1 (pyNext (.ref J) >>= _) _ _ s
    refine wpAny_bind (V.done s _ _ hst fun s' hm => ?_)
    show wpAny _ A.in1 (ret Value.none) _ _ s'
    exact wpAny_pure (hR s' (hm.mono up) (hS.moved fun o e => hm.heap S o hw e))
  | succ k ih =>
    intro i s hk hi hst hS hR
    have hlt : i < n := by omega
    refine codeAny_builtin PyProof.Rows.F.entry_set_update_loop ?_
    rw [Around.under_plainId PyProof.Rows.F.plain_set_update_loop _]
    show wpAny _ A.in1 (pyNext (.ref J) >>= _) _ _ s
    refine wpAny_bind (V.item i s _ _ hlt hst fun v s' hP hst' hm => ?_)
    obtain ⟨t, rfl⟩ := hv i v hP
    have hS1 : SetI prog w s'.heap S xs i := hS.moved fun o e => hm.heap S o hw e
    generalize hx : xs.getD i Str.empty = x
    show wpAny _ A.in1 (holding [Value.str x t] (setAdd S (.str x t)) >>= _) _ _ s'
    refine wpAny_bind (wpAny_holding ?_)
    unfold setAdd
    refine wpAny_holding ?_
    refine wpAny_bind ((PySem.strKind prog w).pyHash (k := x) (strKind_is _ _ _ _) ?_)
    have hroom : cntS (metS xs i) + 1 < scanBound := by
      have h1 := cntS_le (metS xs i)
      have h2 : (metS xs i).length ≤ i := by unfold metS; rw [List.length_reverse, List.length_take]; omega
      omega
    refine wpAny_setAddHashed_of (knd := PySem.strKind prog w) (s := { s' with toks := s'.toks + 1 }) (strKind_is _ _ _ _) rfl hS1 hroom fun h' sb hS2 => ?_
    have hS3 : SetI prog w h' S xs (i + 1) := by
      refine SetOf_congr hS2 (fun k' => ?_) ?_
      · rw [metS_succ (by omega), hx, List.any_cons, Bool.or_comm]
        congr 1
        by_cases e : k' = x
        · subst e; simp
        · have : ¬ x = k' := fun z => e z.symm
          simp [e, this]
      · rw [metS_succ (by omega), hx]
        rfl
    refine wpAny_pure ⟨plainId_quiet PyProof.Rows.F.plain_set_update_loop _, ih (i + 1) _ (by omega) hlt (V.frame _ s' _ _ hst' (Nat.le_succ _) fun b hb' o e => ?_) hS3 fun s2 hm2 hS4 => ?_⟩
    · rw [sb.2 b (fun z : b = S => hSf (by rw [← z]; exact hb'))]; exact e
    · refine hR s2 (Moved.trans V.gtrans ((hm.mono up).then_heap (Nat.le_succ _) fun b o hb' e => ?_) hm2) hS4
      rw [sb.2 b (fun z : b = S => hb' (by rw [z]; exact List.mem_cons_self))]; exact e
end
section
variable {prog : Program} {w : World} {A : Around} {E : Value → Shared → Prop} {s : Shared}
theorem strs_at : ∀ {us : List Value} {xs : List Str}, StrsAre us xs → ∀ (i : Nat) (v : Value), us[i]? = some v → ∃ t, v = .str (xs.getD i Str.empty) t
  | _, _, .nil, i, v, h => by simp at h
  | _, _, .cons x t r, 0, v, h => by
    simp at h
    exact ⟨t, h.symm⟩
  | _, _, .cons x t r, i + 1, v, h => by
    obtain ⟨t', e⟩ := strs_at r i v (by simpa using h)
    exact ⟨t', by rw [e]; simp⟩

theorem texts_set_list {at_ : Addr} {us : Array Value} {xs : List Str} {F : Value → Shared → Prop} (calm : A.handled = none) (isS : s.heap.IsList at_ us) (are : StrsAre us.toList xs) (few : us.size + 1 < scanBound)
    (fin : ∀ (g : Heap) (tk : Nat), SetI prog w g s.heap.objs.size xs us.size → (∀ b o, b < s.heap.objs.size → s.heap.get? b = some o → g.get? b = some o) → F (.ref s.heap.objs.size) { s with heap := g, toks := tk }) :
    wpAny (model prog w) A (call (.type "set") [.ref at_]) F E s := by
  obtain ⟨c0, tl0, mro0⟩ := PySem.F.called_set.mro
  have made0 := PySem.F.called_set.made
  have sub0 := PySem.F.called_set.sub
  refine wpAny_call (codeAny_of_tree (?_ : wpAny _ _ (callAny (.type "set") _) _ _ _))
  refine wpAny_pure ⟨Code.quiet_builtin _ (by decide +kernel), codeAny_builtin PySem.F.entry_type_call ((congrArg (fun z => wpAny _ z _ _ _ _) (Around.under_plain (weight_type_call_type "set" [.ref at_] []) rfl)).mpr ?_)⟩
  have nt0 := PySem.F.called_set.notType
  have cc0 := PySem.F.called_set.canCreate
  have tc0 := PySem.F.typeCall_set_1 (.ref at_)
  repeat (any_goals (first | assumption | wp_step))
  let fresh : Bool → Obj := fun led => { cls := .type "set", dict := none, data := .set #[] 0 (.fresh 0 0 led) }
  refine codeAny_mono (code_set_new_1 (.ref at_) (E := E) (Q₁ := fun ob z => ∃ led : Bool, ob = .ref s.heap.objs.size ∧ z = { s with heap := s.heap.push (fresh led) }) fun led => ⟨led, rfl, rfl⟩) fun res z hz => ?_
  cases res with
  | error _ => exact hz
  | ok flow =>
    cases flow with
    | ret ob =>
      obtain ⟨led, rfl, rfl⟩ := hz
      have g0 : (s.heap.push (fresh led)).get? s.heap.objs.size = some (fresh led) := Heap.get?_push_size _ rfl
      have ty0 : Shared.TypeIs { s with heap := s.heap.push (fresh led) } (.ref s.heap.objs.size) "set" := ⟨_, g0, rfl⟩
      have il0 := PySem.F.called_set.init.lookup
      have ib0 := PySem.F.called_set.init.bind (.ref s.heap.objs.size)
      repeat (any_goals (first | assumption | wp_step))
      let Goal : Value → Shared → Prop := fun r z => r = .none ∧ ∃ g tk, z = { s with heap := g, toks := tk } ∧ SetI prog w g s.heap.objs.size xs us.size ∧ (∀ b o, b < s.heap.objs.size → s.heap.get? b = some o → g.get? b = some o)
      refine codeAny_mono (codeAny_call_builtin (R := wants Goal E) PySem.F.called_set.init.plain PySem.F.entry_set_init (check_set_init_1 ty0 ?_)) fun res2 z2 hz2 => ?_
      · obtain ⟨⟨ocl, odi, oda, osl⟩, g1, e1, len1, e2⟩ := isS
        simp only at e1 e2
        subst e1; subst e2
        have g2 : (s.heap.push (fresh led)).get? at_ = some { cls := .type "list", dict := odi, data := .seq us len1, slots := osl } := Heap.get?_push_of_some _ g1
        have ss0 := PySem.F.sub_list_set
        have sf0 := PySem.F.sub_list_frozenset
        have nd0 : (Value.type "list" == Value.type "dict") = false := by decide
        have isS1 : (s.heap.push (fresh led)).IsList at_ us := ⟨_, g2, rfl, len1, rfl⟩
        unfold Builtin.«set.__init__» noKeywords Builtin.Frozenset.updateFrom
        generalize hPI : pyIter = walkIt
        wp_walk
        subst hPI
        refine wpAny_pyIter_list isS1 (wpAny_bind (wpAny_runValue ?_))
        have lt0 : at_ < s.heap.objs.size := Heap.lt_size g1
        have ne0 : at_ ≠ (s.heap.push (fresh led)).objs.size := by
          rw [Heap.size_push]; exact fun z => Nat.lt_irrefl _ (Nat.lt_trans (z ▸ lt0) (Nat.lt_succ_self _))
        have out0 : s.heap.objs.size ∉ [(s.heap.push (fresh led)).objs.size, at_] := fun z => by
          rw [Heap.size_push] at z
          rcases List.mem_cons.mp z with z | z
          · exact Nat.lt_irrefl _ (Nat.lt_of_lt_of_eq (Nat.lt_succ_self _) z.symm)
          · exact Nat.lt_irrefl _ (Nat.lt_of_lt_of_eq lt0 (List.mem_singleton.mp z))
        have len0 : xs.length = us.size := by rw [← StrsAre.len_eq are, Array.length_toList]
        refine set_texts ((Walks.list (by simp [calm] : A.in1.in1.in1.handled = none) _ at_ ne0 us).toS) s.heap.objs.size out0 xs len0 few (fun i v hv => strs_at are i v (by rw [Array.getElem?_toList]; exact hv)) (us.size - 0) 0 _ (by omega) (Nat.zero_le _) ⟨⟨_, Heap.get?_push_size _ rfl, rfl, rfl⟩, isS1.push _⟩ ?start ?stop
        case start =>
          have g3 : ((s.heap.push (fresh led)).push { cls := .type "list_iterator", data := .fields #[.ref at_, .int 0 0] }).get? s.heap.objs.size = some (fresh led) := Heap.get?_push_of_some _ g0
          exact SetOf_congr ((setObjOf_fresh (knd := PySem.strKind prog w) led).setOf g3 (by unfold scanBound; omega)) (fun _ => rfl) rfl
        case stop =>
          intro z3 mv hS3
          obtain ⟨h3, ge3, dr3, tk3, os3⟩ := z3
          obtain rfl : ge3 = s.gens := mv.gens
          obtain rfl : dr3 = s.drawn := mv.drawn
          obtain rfl : os3 = s.os := mv.os
          show wpAny _ _ _ _ _ _
          refine wpAny_pure ?_
          show wpAny _ _ (ret Value.none) _ _ _
          refine wpAny_pure ⟨rfl, h3, tk3, rfl, hS3, fun b o hb e => mv.heap b o (fun z => ?_) (Heap.get?_push_of_some _ (Heap.get?_push_of_some _ e))⟩
          rw [Heap.size_push] at z
          rcases List.mem_cons.mp z with z | z
          · exact Nat.lt_irrefl _ (Nat.lt_of_lt_of_eq hb z.symm)
          · exact Nat.lt_irrefl _ (Nat.lt_trans (Nat.lt_of_lt_of_eq (Nat.lt_succ_self _) (List.mem_singleton.mp z).symm) hb)
      · cases res2 with
        | error _ => exact hz2
        | ok flow2 =>
          cases flow2 with
          | ret v2 =>
            obtain ⟨rfl, g, tk, rfl, hS2, keep2⟩ := hz2
            repeat (any_goals (first | assumption | wp_step))
            exact fin _ _ hS2 keep2
          | _ => exact hz2.elim
    | _ => exact hz.elim

theorem texts_set_tuple {at_ : Addr} {us : Array Value} {xs : List Str} {F : Value → Shared → Prop} (calm : A.handled = none) (isS : s.heap.IsTuple at_ us) (are : StrsAre us.toList xs) (few : us.size + 1 < scanBound)
    (fin : ∀ (g : Heap) (tk : Nat), SetI prog w g s.heap.objs.size xs us.size → (∀ b o, b < s.heap.objs.size → s.heap.get? b = some o → g.get? b = some o) → F (.ref s.heap.objs.size) { s with heap := g, toks := tk }) :
    wpAny (model prog w) A (call (.type "set") [.ref at_]) F E s := by
  obtain ⟨c0, tl0, mro0⟩ := PySem.F.called_set.mro
  have made0 := PySem.F.called_set.made
  have sub0 := PySem.F.called_set.sub
  refine wpAny_call (codeAny_of_tree (?_ : wpAny _ _ (callAny (.type "set") _) _ _ _))
  refine wpAny_pure ⟨Code.quiet_builtin _ (by decide +kernel), codeAny_builtin PySem.F.entry_type_call ((congrArg (fun z => wpAny _ z _ _ _ _) (Around.under_plain (weight_type_call_type "set" [.ref at_] []) rfl)).mpr ?_)⟩
  have nt0 := PySem.F.called_set.notType
  have cc0 := PySem.F.called_set.canCreate
  have tc0 := PySem.F.typeCall_set_1 (.ref at_)
  repeat (any_goals (first | assumption | wp_step))
  let fresh : Bool → Obj := fun led => { cls := .type "set", dict := none, data := .set #[] 0 (.fresh 0 0 led) }
  refine codeAny_mono (code_set_new_1 (.ref at_) (E := E) (Q₁ := fun ob z => ∃ led : Bool, ob = .ref s.heap.objs.size ∧ z = { s with heap := s.heap.push (fresh led) }) fun led => ⟨led, rfl, rfl⟩) fun res z hz => ?_
  cases res with
  | error _ => exact hz
  | ok flow =>
    cases flow with
    | ret ob =>
      obtain ⟨led, rfl, rfl⟩ := hz
      have g0 : (s.heap.push (fresh led)).get? s.heap.objs.size = some (fresh led) := Heap.get?_push_size _ rfl
      have ty0 : Shared.TypeIs { s with heap := s.heap.push (fresh led) } (.ref s.heap.objs.size) "set" := ⟨_, g0, rfl⟩
      have il0 := PySem.F.called_set.init.lookup
      have ib0 := PySem.F.called_set.init.bind (.ref s.heap.objs.size)
      repeat (any_goals (first | assumption | wp_step))
      let Goal : Value → Shared → Prop := fun r z => r = .none ∧ ∃ g tk, z = { s with heap := g, toks := tk } ∧ SetI prog w g s.heap.objs.size xs us.size ∧ (∀ b o, b < s.heap.objs.size → s.heap.get? b = some o → g.get? b = some o)
      refine codeAny_mono (codeAny_call_builtin (R := wants Goal E) PySem.F.called_set.init.plain PySem.F.entry_set_init (check_set_init_1 ty0 ?_)) fun res2 z2 hz2 => ?_
      · obtain ⟨⟨ocl, odi, oda, osl⟩, g1, e1, len1, e2⟩ := isS
        simp only at e1 e2
        subst e1; subst e2
        have g2 : (s.heap.push (fresh led)).get? at_ = some { cls := .type "tuple", dict := odi, data := .seq us len1, slots := osl } := Heap.get?_push_of_some _ g1
        have ss0 := PySem.F.sub_tuple_set
        have sf0 := PySem.F.sub_tuple_frozenset
        have nd0 : (Value.type "tuple" == Value.type "dict") = false := by decide
        have isS1 : (s.heap.push (fresh led)).IsTuple at_ us := ⟨_, g2, rfl, len1, rfl⟩
        unfold Builtin.«set.__init__» noKeywords Builtin.Frozenset.updateFrom
        generalize hPI : pyIter = walkIt
        wp_walk
        subst hPI
        refine wpAny_pyIter_tuple isS1 (wpAny_bind (wpAny_runValue ?_))
        have lt0 : at_ < s.heap.objs.size := Heap.lt_size g1
        have ne0 : at_ ≠ (s.heap.push (fresh led)).objs.size := by
          rw [Heap.size_push]; exact fun z => Nat.lt_irrefl _ (Nat.lt_trans (z ▸ lt0) (Nat.lt_succ_self _))
        have out0 : s.heap.objs.size ∉ [(s.heap.push (fresh led)).objs.size, at_] := fun z => by
          rw [Heap.size_push] at z
          rcases List.mem_cons.mp z with z | z
          · exact Nat.lt_irrefl _ (Nat.lt_of_lt_of_eq (Nat.lt_succ_self _) z.symm)
          · exact Nat.lt_irrefl _ (Nat.lt_of_lt_of_eq lt0 (List.mem_singleton.mp z))
        have len0 : xs.length = us.size := by rw [← StrsAre.len_eq are, Array.length_toList]
        refine set_texts ((Walks.tuple (by simp [calm] : A.in1.in1.in1.handled = none) _ at_ ne0 us).toS) s.heap.objs.size out0 xs len0 few (fun i v hv => strs_at are i v (by rw [Array.getElem?_toList]; exact hv)) (us.size - 0) 0 _ (by omega) (Nat.zero_le _) ⟨⟨_, Heap.get?_push_size _ rfl, rfl, rfl⟩, isS1.push _⟩ ?start ?stop
        case start =>
          have g3 : ((s.heap.push (fresh led)).push { cls := .type "tuple_iterator", data := .fields #[.ref at_, .int 0 0] }).get? s.heap.objs.size = some (fresh led) := Heap.get?_push_of_some _ g0
          exact SetOf_congr ((setObjOf_fresh (knd := PySem.strKind prog w) led).setOf g3 (by unfold scanBound; omega)) (fun _ => rfl) rfl
        case stop =>
          intro z3 mv hS3
          obtain ⟨h3, ge3, dr3, tk3, os3⟩ := z3
          obtain rfl : ge3 = s.gens := mv.gens
          obtain rfl : dr3 = s.drawn := mv.drawn
          obtain rfl : os3 = s.os := mv.os
          show wpAny _ _ _ _ _ _
          refine wpAny_pure ?_
          show wpAny _ _ (ret Value.none) _ _ _
          refine wpAny_pure ⟨rfl, h3, tk3, rfl, hS3, fun b o hb e => mv.heap b o (fun z => ?_) (Heap.get?_push_of_some _ (Heap.get?_push_of_some _ e))⟩
          rw [Heap.size_push] at z
          rcases List.mem_cons.mp z with z | z
          · exact Nat.lt_irrefl _ (Nat.lt_of_lt_of_eq hb z.symm)
          · exact Nat.lt_irrefl _ (Nat.lt_trans (Nat.lt_of_lt_of_eq (Nat.lt_succ_self _) (List.mem_singleton.mp z).symm) hb)
      · cases res2 with
        | error _ => exact hz2
        | ok flow2 =>
          cases flow2 with
          | ret v2 =>
            obtain ⟨rfl, g, tk, rfl, hS2, keep2⟩ := hz2
            repeat (any_goals (first | assumption | wp_step))
            exact fin _ _ hS2 keep2
          | _ => exact hz2.elim
    | _ => exact hz.elim
end
end Mi
namespace Mi
open PySem PySem.Spec PyProof.Rows L2
section
variable {X : Cx}
/-- len(set(xs)), xs a list or a tuple of texts -/
def tLenSetD (K : PySem.W.Frag) (ta : TE) : TE := fun σ H Q => ta σ H fun x H1 => ∃ (at_ : Addr) (xs : List Str), x = .ref at_ ∧ (SqL K H1 at_ (xs.map V.str) ∨ SqT K H1 at_ (xs.map V.str)) ∧ xs.length ≤ 4000 ∧ Q (.int (cntS xs.reverse)) H1
theorem metS_all (xs : List Str) : metS xs xs.length = xs.reverse := by unfold metS; rw [List.take_length]
theorem pe_lenSetD {a : Expr} {ta : TE} {p p2 q pos : Pos} (hc : X.calm = true) (hg : Gl X "len") (hm : X.mg "len" = none) (hg2 : Gl X "set") (hm2 : X.mg "set" = none) (ha : PE X a ta)
    (na : starEach [a] X.env = (false, eval a X.env) :: starEach [] X.env) : PE X (.Call (.Name "len" p) [.Call (.Name "set" p2) [a] [] q] [] pos) (tLenSetD X.K ta) := by
  refine ⟨fun pins s σ H Q I h => Call_ (ld_blt I hg hm boot_len (PyProof.Rows.callWith_builtin1 (PyProof.Rows.args_cons (Call_ (ld_blt I hg2 hm2 boot_set ?_)) rfl) rfl rfl))⟩
  refine PyProof.Rows.callWith_type1 (PyProof.Rows.args_cons (thn (ha.run pins s σ H _ I h) fun v s1 ⟨x, H1, I1, r1, q1⟩ => PyProof.Rows.args_nil ?_) na) na rfl
  obtain ⟨at_, xs, rfl, hq, few, q1⟩ := q1
  cases r1
  have fin : ∀ (us : List Value), Vals (xs.map V.str) us → ∀ (g : Heap) (tk : Nat), SetI X.prog X.w g s1.heap.objs.size xs us.toArray.size → (∀ b o, b < s1.heap.objs.size → s1.heap.get? b = some o → g.get? b = some o) →
      wpAny (model X.prog X.w) X.A (spliced (backTo pos (starEach [] X.env))) (fun vs z => wpAny (model X.prog X.w) X.A (call (.builtin "len") (Value.ref s1.heap.objs.size :: vs)) (EP X pins σ Q) X.xe z) X.xe { s1 with heap := g, toks := tk } := fun us r g tk hS keep => by
    refine PyProof.Rows.args_nil ?_
    have hl : us.toArray.size = xs.length := by rw [List.size_toArray, ← r.length, List.length_map]
    unfold SetI at hS
    rw [hl, metS_all] at hS
    obtain ⟨o, es, ep, t, ho, hex, hd, _, _, _, hf, hn⟩ := hS
    have I2 : Inv X pins σ H1 { s1 with heap := g, toks := tk } := I1.kept fun b o e => keep b o (Heap.lt_size e) e
    have cl := cntS_le xs.reverse
    rw [List.length_reverse] at cl
    exact call_len_set ho hex hd hf (by rw [hn] <;> omega) ⟨.int (cntS xs.reverse), H1, I2.tok _, ⟨_, by rw [hn]⟩, q1⟩
  have sz : ∀ (us : List Value), Vals (xs.map V.str) us → us.toArray.size + 1 < scanBound := fun us r => by
    rw [List.size_toArray, ← r.length, List.length_map]
    unfold scanBound
    omega
  rcases hq with hq | hq
  · obtain ⟨us, r, pl, hz⟩ := I1.list hq
    exact texts_set_list (I1.ok.hd hc) pl.isList (by simpa using strsAre_of r) (sz us r) fun g tk hS keep => fin us r g tk hS keep
  · obtain ⟨us, r, pl, hz⟩ := I1.tuple hq
    exact texts_set_tuple (I1.ok.hd hc) pl (by simpa using strsAre_of r) (sz us r) fun g tk hS keep => fin us r g tk hS keep
end
end Mi
namespace Mi
open PySem L2
def dLenSet (d : D) (st : Store) : O D := match seqOf st d with
  | some xs => match strsD xs with
    | some ss => if ss.length ≤ 4000 then .ok (.int (cntS ss.reverse)) st else .no
    | none => .no
  | none => .no
section
variable {C : Cf} {X : Cx} {W : WX} {σ : L2.St} {H : Hp}
theorem td_lenSet (hK : X.K = C.K) {a : M D} {Q : VK} (h : TD C W (mUn dLenSet a) σ H Q) : tLenSetD X.K (TD C W a) σ H Q := by
  obtain ⟨μ, ρ, st, R, E, h⟩ := h
  refine ⟨μ, ρ, st, R, E, (Post.bind (R := Dat) h).imp fun v H1 ⟨x, st1, μ1, _, e1, R1, d1, h1⟩ => ?_⟩
  unfold dLenSet at h1
  cases q : seqOf st1 x with
  | none => rw [q] at h1; exact False.elim h1
  | some xs =>
    rw [q] at h1
    dsimp only at h1
    cases q2 : strsD xs with
    | none => rw [q2] at h1; exact False.elim h1
    | some ss =>
      rw [q2] at h1
      dsimp only at h1
      split at h1
      · rename_i hl
        obtain ⟨p, vs, rfl, g1, g2, g3⟩ := seqOf_ok R1 d1 q
        obtain ⟨e, _⟩ := strs_of g2 q2
        subst e
        exact ⟨p, ss, rfl, by rw [hK]; exact g1, hl, Post.now R1 h1 (.int _)⟩
      · exact False.elim h1
end
/-- the text: len(set(a)) -/
def lenSetPat (x : Str) : List Expr → Option Expr
  | [.Call (.Name y _) [a] [] _] => if x = "len" ∧ y = "set" then some a else none
  | _ => none
end Mi
/-! Mi11e: sorted texts, pop, tuples told over, dicts as they are written. -/
namespace Mi
open PySem PySem.Spec L2 PyProof.Rows

/-! ### the order of texts -/
def leS (a b : Str) : Bool := !ltCps b.cps.toList a.cps.toList
theorem leS_iff {a b : Str} : leS a b = true ↔ a.cps.toList ≤ b.cps.toList := by
  unfold leS
  rw [ltCps_eq, Bool.not_eq_true', decide_eq_false_iff_not]
  exact Iff.rfl
theorem leS_trans {a b c : Str} (h : leS a b = true) (g : leS b c = true) : leS a c = true := leS_iff.mpr (List.le_trans (leS_iff.mp h) (leS_iff.mp g))
theorem leS_total (a b : Str) : (leS a b || leS b a) = true := by
  rw [Bool.or_eq_true, leS_iff, leS_iff]
  exact List.le_total _ _
theorem leS_anti {a b : Str} (h : leS a b = true) (g : leS b a = true) : a = b := by
  have e := List.le_antisymm (leS_iff.mp h) (leS_iff.mp g)
  obtain ⟨⟨x⟩⟩ := a
  obtain ⟨⟨y⟩⟩ := b
  have e : x = y := e
  rw [e]
theorem rising_all : ∀ {r : List Str} {p : Str}, risingS p r = true → (∀ y ∈ r, leS p y = true) ∧ r.Pairwise (fun a b => leS a b = true)
  | [], _, _ => ⟨fun _ h => absurd h List.not_mem_nil, .nil⟩
  | x :: r, p, h => by
    unfold risingS at h
    rw [Bool.and_eq_true] at h
    obtain ⟨g1, g2⟩ := rising_all h.2
    have hx : leS p x = true := h.1
    refine ⟨fun y hy => ?_, .cons g1 g2⟩
    rcases List.mem_cons.mp hy with rfl | hy
    · exact hx
    · exact leS_trans hx (g1 y hy)
theorem sorted_pw {l : List Str} (h : sortedS l = true) : l.Pairwise (fun a b => leS a b = true) := by
  cases l with
  | nil => exact .nil
  | cons x r =>
    obtain ⟨g1, g2⟩ := rising_all (show risingS x r = true from h)
    exact .cons g1 g2
def sortS (l : List Str) : List Str := l.mergeSort leS
theorem sortS_perm (l : List Str) : (sortS l).Perm l := List.mergeSort_perm l leS
theorem sortS_pw (l : List Str) : (sortS l).Pairwise (fun a b => leS a b = true) := List.pairwise_mergeSort (le := leS) (fun _ _ _ h g => leS_trans h g) leS_total l
theorem sortS_uniq {l ys : List Str} (hp : ys.Perm l) (hs : sortedS ys = true) : ys = sortS l :=
  List.Perm.eq_of_pairwise (fun a b _ _ h g => leS_anti h g) (sorted_pw hs) (sortS_pw l) (hp.trans (sortS_perm l).symm)
/-- sorted(xs), texts -/
def dSort (m : Bool) : List D → Store → O D
  | [d], st => match seqOf st d with
    | some xs => match strsD xs with
      | some ss => if ss.length < 64 then mkL m ((sortS ss).map D.str) st else .no
      | none => .no
    | none => .no
  | _, _ => .no
/-! ### a tuple's items gathered -/
section
variable {prog : Program} {w : World} {A : Around} {E : Value → Shared → Prop} {s : Shared}
theorem gather_tup {t : Addr} {vs : List Value} {Q : List Value → Shared → Prop} (ht : s.heap.IsTuple t vs.toArray) (hn : vs.length ≤ sizeLine)
    (h : Q vs { s with heap := (s.heap.push (seqObj "list" #[] 0)).update s.heap.objs.size (Obj.mapSeq (· ++ vs.toArray)) }) :
    wpAny (model prog w) A (collect (.ref t)) Q E s := by
  obtain ⟨o, ho, hc, n, hd⟩ := id ht
  have ho1 : (s.heap.push (seqObj "list" #[] 0)).get? t = some o := Heap.get?_push_of_some _ ho
  have hnew : (s.heap.push (seqObj "list" #[] 0)).get? s.heap.objs.size = some (seqObj "list" #[] 0) := Heap.get?_push_size _ rfl
  unfold collect
  refine wpAny_bind (wpAny_runValue (codeAny_builtin entry_proto_collect' ?_))
  refine (?_ : wpAny _ _ (do again (.builtin "list.__iadd__" ⟨[← newList [], .ref t], []⟩)) _ _ s)
  refine wpAny_bind (wpAny_newList (wpAny_pure ⟨Code.quiet_builtin _ (by decide +kernel), codeAny_builtin entry_list_iadd' ?_⟩))
  refine (?_ : wpAny _ _ (Builtin.List.listExtendWith (.ref s.heap.objs.size) (.ref t) (.ref s.heap.objs.size)) _ _ { s with heap := s.heap.push (seqObj "list" #[] 0) })
  unfold Builtin.List.listExtendWith
  refine wpAny_bind (wpAny_typeOf (T := "tuple") ⟨o, ho1, hc⟩ ?_)
  have tt : (Value.type "tuple" == Value.type "tuple") = true := by rfl
  rw [if_pos (by rw [tt]; simp)]
  refine wpAny_bind (listItems_at ho1 hd (wpAny_bind (listItems_at (xs := #[]) (n := 0) hnew rfl ?_)))
  rw [if_neg (by simp)]
  refine wpAny_bind (listUpdate_at (xs := #[]) (n := 0) hnew rfl (wpAny_pure ?_) (Nat.zero_le _) (by show (#[] ++ vs.toArray).size ≤ sizeLine + 1; simp only [Array.size_append, List.size_toArray, List.length_nil]; omega))
  refine (?_ : wpAny (model prog w) A (do
      let o ← load s.heap.objs.size
      match o.data with | .seq xs _ => pure xs.toList | _ => unsupported "internal:collect") Q E { s with heap := (s.heap.push (seqObj "list" #[] 0)).update s.heap.objs.size (Obj.mapSeq (· ++ vs.toArray)) })
  refine wpAny_bind (wpAny_load (get?_update_seq hnew _) ?_)
  refine (?_ : wpAny _ _ (pure ((#[] : Array Value) ++ vs.toArray).toList) Q E _)
  rw [show ((#[] : Array Value) ++ vs.toArray).toList = vs by simp]
  exact wpAny_pure h
theorem sorted_tup {t : Addr} {vs : List Value} {ss : List Str} {Q : Value → Shared → Prop} (ht : s.heap.IsTuple t vs.toArray) (hS : StrsAre vs ss) (h64 : vs.length < 64)
    (h : ∀ (out : Array Value) (ss' : List Str), StrsAre out.toList ss' → ss'.Perm ss → sortedS ss' = true → Q (.ref (s.heap.objs.size + 1)) { s with heap := sortedAll s.heap vs out }) :
    wpAny (model prog w) A (call (.builtin "sorted") [.ref t]) Q E s := by
  refine Calls.call_function_entry kind_sorted plain_sorted entry_sorted (args_sorted1 _) ?_
  unfold Builtin.«sorted»
  refine wpAny_bind (m := checkCount "sorted" 1 1 _) (wpAny_pure (wpAny_bind (gather_tup ht (by rw [sizeLine_eq]; omega) (wpAny_bind (wpAny_newList ?_)))))
  have hz : ((s.heap.push (seqObj "list" #[] 0)).update s.heap.objs.size (Obj.mapSeq (· ++ vs.toArray))).objs.size = s.heap.objs.size + 1 := (Heap.size_update ..).trans (size_push' ..)
  have hL : (((s.heap.push (seqObj "list" #[] 0)).update s.heap.objs.size (Obj.mapSeq (· ++ vs.toArray))).push (seqObj "list" vs.toArray 0)).get? (s.heap.objs.size + 1) = some (seqObj "list" vs.toArray 0) := by
    rw [← hz] <;> exact Heap.get?_push_size _ rfl
  refine (?_ : wpAny _ _ _ _ _ { s with heap := ((s.heap.push (seqObj "list" #[] 0)).update s.heap.objs.size (Obj.mapSeq (· ++ vs.toArray))).push (seqObj "list" vs.toArray 0) })
  rw [hz]
  refine wpAny_bind (wpAny_holding (wpAny_call_entry slot_list_sort ⟨_, hL, rfl⟩ entry_list_sort (list_sort_treeK strKind_oneLt hL hS.keysOf (fun v₁ v₂ rest e => keyKind_strs (by rw [← e]; exact hS)) h64 fun st' a1 a2 => ⟨_, rfl, ?_⟩) (args_list_sort _)))
  obtain ⟨ss', b1, b2, b3⟩ := sorted_out_str hS a1 a2
  exact wpAny_pure ⟨_, rfl, h _ ss' b1 b2 b3⟩
end
section
variable {X : Cx}
def rSortT (K : PySem.W.Frag) : List V → Hp → VK → Prop := fun vs H Q => ∃ (a : Addr) (xs : List Str), vs = [V.ref a] ∧ SqT K H a (xs.map V.str) ∧ xs.length < 64 ∧ ∀ p, H p = none → Q (.ref p) (upd H p (.lst ((sortS xs).map V.str)))
theorem cr_sortT : CallR X (.builtin "sorted") (rSortT X.K) := by
  intro pins s σ H vs us Q I r ⟨a, xs, e, hs, h64, q⟩
  subst e
  obtain ⟨its, rv, hl, _⟩ := I.tuple hs
  have hlen := rv.length
  rw [List.length_map] at hlen
  rw [Vals.ref1 r]
  refine sorted_tup hl rv.strs (by rw [← hlen]; exact h64) fun out ys h1 h2 h3 => ?_
  have ey := sortS_uniq h2 h3
  subst ey
  obtain ⟨ep, hat⟩ := sortedAll_at s.heap its out
  have hz : ((sortS xs).map V.str).length ≤ sizeLine := by rw [List.length_map, h2.length_eq]; exact small64 h64
  exact ⟨.ref _, upd H (s.heap.objs.size + 1) (.lst ((sortS xs).map V.str)), I.laid (t' := s.toks) (fun _ _ => sortedAll_old) (Nat.le_succ _) ⟨hz, out.toList, ep, vals_of_strs h1, hat⟩, rfl, q _ (I.hok.fresh (Nat.le_succ _))⟩
end
theorem strsD_eq : ∀ {xs : List D} {ss : List Str}, strsD xs = some ss → xs = ss.map D.str
  | [], ss, h => by cases h; rfl
  | .str x :: r, ss, h => by
    obtain ⟨t, h1, rfl⟩ := map_some (show (strsD r).map (x :: ·) = some ss from h)
    rw [strsD_eq h1]; rfl
  | .non :: _, _, h => by cases h
  | .bl _ :: _, _, h => by cases h
  | .int _ :: _, _, h => by cases h
  | .tup _ :: _, _, h => by cases h
  | .lst _ :: _, _, h => by cases h
  | .frz _ :: _, _, h => by cases h
  | .dct _ :: _, _, h => by cases h
  | .ref _ :: _, _, h => by cases h
section
variable {C : Cf} {X : Cx} {W : WX} {μ : Mu} {st : Store} {H : Hp} {n : Nat}
theorem DatL.strs {K : PySem.W.Frag} : ∀ {vs : List V} {ss : List Str}, DatL K n μ H vs (ss.map D.str) → vs = ss.map V.str ∧ ∀ x ∈ ss, x.length ≤ sizeLine ∧ PyData.strOk x = true
  | _, [], .nil => ⟨rfl, fun _ h => absurd h List.not_mem_nil⟩
  | _, x :: r, .cons (.str hl ok) t => by
    obtain ⟨e, h⟩ := DatL.strs t
    rw [e]
    refine ⟨rfl, fun y hy => ?_⟩
    rcases List.mem_cons.mp hy with rfl | hy
    · exact ⟨hl, ok⟩
    · exact h y hy
theorem DatL.ofStrs {K : PySem.W.Frag} : ∀ {ss : List Str}, (∀ x ∈ ss, x.length ≤ sizeLine ∧ PyData.strOk x = true) → DatL K n μ H (ss.map V.str) (ss.map D.str)
  | [], _ => .nil
  | x :: r, h => .cons (.str (h x (List.mem_cons_self ..)).1 (h x (List.mem_cons_self ..)).2) (DatL.ofStrs fun y hy => h y (List.mem_cons_of_mem _ hy))
theorem snd_sort (hK : X.K = C.K) (m : Bool) : SndL C (fun xs H Q => ∃ r, CallR X (.builtin "sorted") r ∧ r xs H Q) (dSort m) := by
  intro μ st H xs ds W σ Q R hd h
  cases hd with
  | nil => exact False.elim h
  | @cons v vs d ds h1 h2 =>
    cases h2 with
    | cons _ _ => exact False.elim h
    | nil =>
      have h : Post C Dat W σ Q st.length μ H (match seqOf st d with
        | some xs => match strsD xs with
          | some ss => if ss.length < 64 then mkL m ((sortS ss).map D.str) st else .no
          | none => .no
        | none => .no) := h
      cases q : seqOf st d with
      | none => simp only [q] at h; exact False.elim h
      | some ys =>
        simp only [q] at h
        cases q2 : strsD ys with
        | none => simp only [q2] at h; exact False.elim h
        | some ss =>
          simp only [q2] at h
          split at h
          · rename_i hc
            have ey := strsD_eq q2
            subst ey
            obtain ⟨a, ws, rfl, hq, hs, hz⟩ := seqOf_ok R h1 q
            obtain ⟨rfl, hok⟩ := DatL.strs hs
            have hout : DatL C.K st.length μ H ((sortS ss).map V.str) ((sortS ss).map D.str) := DatL.ofStrs fun x hx => hok x ((sortS_perm ss).mem_iff.mp hx)
            rcases hq with hq | hq
            · exact ⟨_, cr_sortedS, a, ss, rfl, by rw [hK]; exact hq, hc, fun zs p hp hso hpn => by
                rw [sortS_uniq hp hso]
                exact newL R h hout hpn⟩
            · exact ⟨_, cr_sortT, a, ss, rfl, by rw [hK]; exact hq, hc, fun p hpn => newL R h hout hpn⟩
          · exact False.elim h
/-! ### xs.pop(i) -/
def dPop (x : D) (xs : List D) (st : Store) : O D := match x, xs with
  | .ref i, [.int k] => match st[i]? with
    | some (.lst l) => if 0 ≤ k ∧ k < l.length then (match l[k.toNat]? with
      | some d => .ok d (st.set i (.lst (l.eraseIdx k.toNat)))
      | none => .no) else .no
    | _ => .no
  | _, _ => .no
theorem DatL.erase {K : PySem.W.Frag} : ∀ {xs : List V} {us : List D} (k : Nat), DatL K n μ H xs us → DatL K n μ H (xs.eraseIdx k) (us.eraseIdx k)
  | _, _, _, .nil => .nil
  | _, _, 0, .cons _ t => t
  | _, _, k + 1, .cons q t => .cons q (DatL.erase k t)
theorem snd_pop : SndM C (fun x xs H Q => ∃ r, MtR X "list.pop" r ∧ r x xs H Q) dPop := by
  intro μ st H x a xs ds W σ Q R da dl h
  cases da with
  | @ref i hi =>
    cases dl with
    | nil => exact False.elim h
    | @cons v vs d ds h1 h2 =>
      cases h2 with
      | cons _ _ => cases d <;> exact False.elim h
      | nil =>
        cases h1 with
        | int k =>
          have h : Post C Dat W σ Q st.length μ H (match st[i]? with
            | some (.lst l) => if 0 ≤ k ∧ k < l.length then (match l[k.toNat]? with
              | some d => .ok d (st.set i (.lst (l.eraseIdx k.toNat)))
              | none => .no) else .no
            | _ => .no) := h
          cases q : st[i]? with
          | none => simp only [q] at h; exact False.elim h
          | some o =>
            cases o with
            | lst l =>
              simp only [q] at h
              split at h
              · rename_i hc
                have hk : k.toNat < l.length := by omega
                rw [List.getElem?_eq_getElem hk] at h
                obtain ⟨_, ws, hw, hwl, hz⟩ := live_lst R q
                obtain ⟨y, hy, dy⟩ := hwl.get (List.getElem?_eq_getElem hk)
                have hsl : sizeLine = 16777216 := rfl
                have hix : seqIndex? k ws.length = some k.toNat := by
                  unfold seqIndex?
                  have hwn := hwl.length
                  simp
                  omega
                refine ⟨_, mt_popAt, μ i, ws, k, k.toNat, y, rfl, rfl, hw, by omega, by omega, hix, hy, ?_⟩
                exact setL_post R q rfl (hwl.erase _) (by have := List.length_eraseIdx_le l k.toNat; omega) dy h
              · exact False.elim h
            | dct _ => simp only [q] at h; exact False.elim h
            | ins _ _ => simp only [q] at h; exact False.elim h
            | lck _ => simp only [q] at h; exact False.elim h
        | _ => exact False.elim h
  | _ => exact False.elim h
end
end Mi
/-! Mi11f: dicts as they are written, tuples told over. -/
namespace Mi
open PySem L2

section
variable {C : Cf} {X : Cx} {W : WX}
/-- while a thing is made at p -/
theorem hold_extO {μ : Mu} {st : Store} {H : Hp} (R : C.Rel μ st H) {p : Addr} {o : HO} (h1 : ∀ xs, o ≠ .tup xs) (h2 : ∀ b x, o ≠ .frz b x) (hp : H p = none) : Ext st.length μ H st.length (mhold μ p) (upd H p o) ∧ C.Rel (mhold μ p) st (upd H p o) := by
  obtain ⟨E, nl⟩ := R.fresh (o := o) hp
  have E2 : Ext st.length μ H st.length (mhold μ p) (upd H p o) := ⟨⟨E.le, E.mu, E.keep, fun i h1 h2 => absurd h1 (by omega), fun a h => .inl h, fun a h => h.elim .inl fun z => .inr (by rw [z]; exact hp), E.tups, E.dom⟩, E.all⟩
  refine ⟨E2, ⟨R.inj, fun i o q => ?_, fun i o q hu => .inl (R.liv i o q hu), fun a z => ?_⟩⟩
  · exact (R.obj i o q).ext E2 fun u hu => by rw [upd_ne (ne_of_none hu hp)]; exact hu
  · rcases z with z | z
    · obtain ⟨u, h, h'⟩ := R.trk a z
      exact ⟨u, by rw [upd_ne (ne_of_none h hp)]; exact h, h'⟩
    · rw [z]; exact ⟨_, upd_same, h1, h2⟩
theorem hold_setO {μ : Mu} {st : Store} {H : Hp} (R : C.Rel μ st H) {p : Addr} {o : HO} (h1 : ∀ xs, o ≠ .tup xs) (h2 : ∀ b x, o ≠ .frz b x) (hp : μ.L p) (hn : ∀ i, i < st.length → μ i ≠ p) : Wx st.length μ H st.length μ (upd H p o) ∧ C.Rel μ st (upd H p o) := by
  have E := R.wx_set (o := o) hp
  refine ⟨E, ⟨R.inj, fun i o q => ?_, R.liv, fun a z => ?_⟩⟩
  · exact (R.obj i o q).wx E fun u hu => by rw [upd_ne (hn i (List.getElem?_eq_some_iff.mp q).1)]; exact hu
  · by_cases e : a = p
    · rw [e]; exact ⟨_, upd_same, h1, h2⟩
    · obtain ⟨u, h, h'⟩ := R.trk a z
      exact ⟨u, by rw [upd_ne e]; exact h, h'⟩
/-- the end of a dict's making: as it stands, or live -/
theorem end_madeD {μ0 μ : Mu} {n0 : Nat} {H0 H : Hp} {st : Store} {p : Addr} {vs : List (Key × V)} {ys : List (Key × D)} {m : Bool} {σ : L2.St} {Q : VK} (hp0 : H0 p = none) (nl0 : ¬ μ0.L p) (E : Ext n0 μ0 H0 st.length μ H) (R : C.Rel μ st H) (hp : H p = some (.dK vs)) (hL : μ.L p) (hn : ∀ i, i < st.length → μ i ≠ p)
    (hs : DatK C.K st.length μ H vs ys) (h : Post C Dat W σ Q n0 μ0 H0 (mkD m ys st)) : Q (.ref p) H := by
  unfold mkD at h
  by_cases hl : ys.length ≤ sizeLine
  · rw [if_pos hl] at h
    have hnl : ¬ (mfree μ p).L p := fun z => z.2 rfl
    have R1 : C.Rel (mfree μ p) st H := R.free hn
    cases m with
    | true =>
      have el : (st ++ [Ob.dct ys]).length = st.length + 1 := by simp
      have h' : Post C Dat W σ Q n0 μ0 H0 (.ok (.ref st.length) (st ++ [.dct ys])) := h
      refine h' (.ref p) (madopt μ st.length p) H ?_ (R.adopt hL hn ⟨vs, hp, hs.less (Nat.le_succ _) (fun j hj => madopt_ne (Nat.ne_of_lt hj)) fun a z => z, hl⟩) ?_
      · rw [el]
        refine ⟨⟨Nat.le_succ_of_le E.le, fun i hi => ?_, E.keep, fun i h1 h2 => ?_, E.lv, E.fr, E.tups, E.dom⟩, E.all⟩
        · rw [madopt_ne (Nat.ne_of_lt (Nat.lt_of_lt_of_le hi E.le))]; exact E.mu i hi
        · by_cases h3 : i = st.length
          · rw [h3, madopt_at]; exact hp0
          · rw [madopt_ne h3]; exact E.new i h1 (by omega)
      · rw [el]
        have z : Dat C.K (st.length + 1) (madopt μ st.length p) H (.ref (madopt μ st.length p st.length)) (.ref st.length) := .ref (Nat.lt_succ_self _)
        rw [madopt_at] at z
        exact z
    | false =>
      have h' : Post C Dat W σ Q n0 μ0 H0 (.ok (.dct ys) st) := h
      exact h' (.ref p) (mfree μ p) H ⟨⟨E.le, E.mu, E.keep, E.new, fun a z => ⟨E.lv a z, fun q => nl0 (by rw [← q]; exact z)⟩, fun a z => E.fr a z.1, E.tups, E.dom⟩, E.all⟩ R1
        (.dct hp hnl hl (DatK.less (μ := μ) (μ' := mfree μ p) (Nat.le_refl _) (fun _ _ => rfl) (fun a (z : (mfree μ p).L a) => z.1) hs))
  · rw [if_neg hl] at h
    exact False.elim h
end
/-! ### pairs -/
def putKD (kvs : List (Key × D)) (k : Key) (v : D) : List (Key × D) := if (kvs.any fun kv => decide (kv.1 = k)) = true then kvs.map (fun kv => if kv.1 = k then (kv.1, v) else kv) else kvs ++ [(k, v)]
def mergeD (kvs more : List (Key × D)) : List (Key × D) := more.foldl (fun acc kv => putKD acc kv.1 kv.2) kvs
def mPNil : M (List (D × D)) := fun _ st => .ok [] st
def mPair (k v : M D) (r : M (List (D × D))) : M (List (D × D)) := fun ρ st => (k ρ st).bind fun x st1 => (v ρ st1).bind fun y st2 => (r ρ st2).bind fun ps st3 => .ok ((x, y) :: ps) st3
def keysD : List (D × D) → Option (List (Key × D))
  | [] => some []
  | (k, v) :: r => match keyD k, keysD r with
    | some k, some kvs => some ((k, v) :: kvs)
    | _, _ => none
def dispO (m : Bool) : Option (List (Key × D)) → Store → O D
  | some kvs, st => if kvs.length ≤ 15 then mkD m (mergeD [] kvs) st else .no
  | none, _ => .no
/-- {k: v, ..} -/
def mDisp (m : Bool) (a : M (List (D × D))) : M D := fun ρ st => (a ρ st).bind fun ps st1 => dispO m (keysD ps) st1
inductive DatP (K : PySem.W.Frag) (n : Nat) (μ : Mu) (H : Hp) : List (V × V) → List (D × D) → Prop
  | nil : DatP K n μ H [] []
  | cons {k v : V} {vs : List (V × V)} {x y : D} {ds : List (D × D)} (hk : Dat K n μ H k x) (hv : Dat K n μ H v y) (t : DatP K n μ H vs ds) : DatP K n μ H ((k, v) :: vs) ((x, y) :: ds)
section
variable {C : Cf} {X : Cx} {W : WX} {K : PySem.W.Frag} {n n1 : Nat} {μ μ1 : Mu} {H H1 : Hp}
theorem DatP.ext (e : Ext n μ H n1 μ1 H1) : ∀ {vs : List (V × V)} {ds : List (D × D)}, DatP K n μ H vs ds → DatP K n1 μ1 H1 vs ds
  | _, _, .nil => .nil
  | _, _, .cons a b t => .cons (a.ext e) (b.ext e) (DatP.ext e t)
theorem datP_keys : ∀ {vs : List (V × V)} {ds : List (D × D)} {kvs : List (Key × D)}, DatP K n μ H vs ds → keysD ds = some kvs → ∃ ws : List (Key × V), vs = ws.map (fun kv => (kV kv.1, kv.2)) ∧ DatK K n μ H ws kvs
  | _, _, _, .nil, e => by cases e; exact ⟨[], rfl, .nil⟩
  | _, _, kvs, .cons (x := x) (y := y) (ds := ds) a b t, e => by
    have e : (match keyD x, keysD ds with
      | some k, some kvs => some ((k, y) :: kvs)
      | _, _ => none) = some kvs := e
    cases qk : keyD x with
    | none => simp only [qk] at e; cases e
    | some k =>
      cases qr : keysD ds with
      | none => simp only [qk, qr] at e; cases e
      | some r =>
        simp only [qk, qr] at e
        cases e
        obtain ⟨ws, h1, h2⟩ := datP_keys t qr
        subst h1
        cases a with
        | int i => cases qk; exact ⟨(.inl i, _) :: ws, rfl, .cons trivial b h2⟩
        | str hl ok => cases qk; exact ⟨(.inr _, _) :: ws, rfl, .cons ⟨hl, ok⟩ b h2⟩
        | _ => cases qk
theorem DatK.anyk (k : Key) : ∀ {vs : List (Key × V)} {ds : List (Key × D)}, DatK K n μ H vs ds → (vs.any fun kv => decide (kv.1 = k)) = (ds.any fun kv => decide (kv.1 = k))
  | _, _, .nil => rfl
  | _, _, .cons _ _ t => by rw [List.any_cons, List.any_cons, DatK.anyk k t]
theorem DatK.mapk {k : Key} {v : V} {d : D} (hd : Dat K n μ H v d) : ∀ {vs : List (Key × V)} {ds : List (Key × D)}, DatK K n μ H vs ds → DatK K n μ H (vs.map fun kv => if kv.1 = k then (kv.1, v) else kv) (ds.map fun kv => if kv.1 = k then (kv.1, d) else kv)
  | _, _, .nil => .nil
  | _, _, .cons (k := k') q h t => by
    rw [List.map_cons, List.map_cons]
    by_cases e : k' = k
    · rw [if_pos e, if_pos e]; exact .cons q hd (DatK.mapk hd t)
    · rw [if_neg e, if_neg e]; exact .cons q h (DatK.mapk hd t)
theorem DatK.snoc {k : Key} {v : V} {d : D} (hk : KeyOk k) (hd : Dat K n μ H v d) : ∀ {vs : List (Key × V)} {ds : List (Key × D)}, DatK K n μ H vs ds → DatK K n μ H (vs ++ [(k, v)]) (ds ++ [(k, d)])
  | _, _, .nil => .cons hk hd .nil
  | _, _, .cons q h t => .cons q h (DatK.snoc hk hd t)
theorem DatK.putk {k : Key} {v : V} {d : D} (hk : KeyOk k) (hd : Dat K n μ H v d) {vs : List (Key × V)} {ds : List (Key × D)} (h : DatK K n μ H vs ds) : DatK K n μ H (putK vs k v) (putKD ds k d) := by
  unfold putK putKD
  rw [DatK.anyk k h]
  by_cases e : (ds.any fun kv => decide (kv.1 = k)) = true
  · rw [if_pos e, if_pos e]; exact DatK.mapk hd h
  · rw [if_neg e, if_neg e]; exact DatK.snoc hk hd h
theorem DatK.merge : ∀ {ws : List (Key × V)} {ks : List (Key × D)} {vs : List (Key × V)} {ds : List (Key × D)}, DatK K n μ H ws ks → DatK K n μ H vs ds → DatK K n μ H (mergeK vs ws) (mergeD ds ks)
  | _, _, _, _, .nil, h => h
  | _, _, vs, ds, .cons (k := k) (v := v) (d := d) q a t, h => DatK.merge (vs := putK vs k v) (ds := putKD ds k d) t (DatK.putk q a h)
abbrev RP : RelT (List (D × D)) (List (V × V)) := DatP
theorem td_pairsN {σ : L2.St} {H : Hp} {Q : List (V × V) → Hp → Prop} (h : TDg C RP W mPNil σ H Q) : tPairs [] σ H Q := by
  obtain ⟨μ, ρ, st, R, E, h⟩ := h
  exact h [] μ H Ext.refl R .nil
theorem td_pairsC {k v : M D} {r : M (List (D × D))} {trs : List (TE × TE)} (hr : ∀ (σ : L2.St) (H : Hp) (Q : List (V × V) → Hp → Prop), TDg C RP W r σ H Q → tPairs trs σ H Q) {σ : L2.St} {H : Hp} {Q : List (V × V) → Hp → Prop} (h : TDg C RP W (mPair k v r) σ H Q) : tPairs ((TD C W k, TD C W v) :: trs) σ H Q := by
  obtain ⟨μ, ρ, st, R, E, h⟩ := h
  refine ⟨μ, ρ, st, R, E, (Post.bind (R := Dat) h).imp fun x H1 ⟨a, st1, μ1, _, e1, R1, d1, h1⟩ => ?_⟩
  refine ⟨μ1, ρ, st1, R1, E.ext e1, (Post.bind (R := Dat) h1).imp fun y H2 ⟨b, st2, μ2, _, e2, R2, d2, h2⟩ => ?_⟩
  refine hr σ H2 _ ⟨μ2, ρ, st2, R2, (E.ext e1).ext e2, (Post.bind (R := RP) h2).imp fun ps H3 ⟨c, st3, μ3, _, e3, R3, d3, h3⟩ => ?_⟩
  exact h3 ((x, y) :: ps) μ3 H3 Ext.refl R3 (.cons ((d1.ext e2).ext e3) (d2.ext e3) d3)
theorem td_disp {m : Bool} {a : M (List (D × D))} {trs : List (TE × TE)} (hr : ∀ (σ : L2.St) (H : Hp) (Q : List (V × V) → Hp → Prop), TDg C RP W a σ H Q → tPairs trs σ H Q) {σ : L2.St} {H : Hp} {Q : VK} (h : TD C W (mDisp m a) σ H Q) : tDisp trs σ H Q := by
  obtain ⟨μ, ρ, st, R, E, h⟩ := h
  intro p hp
  have nlp := (R.fresh (o := .dK []) hp).2
  obtain ⟨Eh, Rh⟩ := hold_extO (C := C) R (o := .dK []) (fun _ z => by cases z) (fun _ _ z => by cases z) hp
  have hnp : ∀ j, j < st.length → (mhold μ p) j ≠ p := fun j hj => R.ne_new hj hp
  refine hr σ _ _ ⟨mhold μ p, ρ, st, Rh, E.ext Eh, ?_⟩
  have h : Post C Dat W σ Q st.length μ H ((a ρ st).bind fun ps st1 => dispO m (keysD ps) st1) := h
  cases q : a ρ st with
  | no => rw [q] at h; exact False.elim h
  | ex x st1 => rw [q] at h; exact fun cl dd μ' H' e r d => h cl dd μ' H' (Eh.trans e) r d
  | ok ps st1 =>
    rw [q] at h
    have h : Post C Dat W σ Q st.length μ H (dispO m (keysD ps) st1) := h
    intro vs μ' H' e r d
    have hp' : H' p = some (.dK []) := e.all p _ upd_same hnp
    cases qk : keysD ps with
    | none => rw [qk] at h; exact False.elim h
    | some kvs =>
      rw [qk] at h
      have h : Post C Dat W σ Q st.length μ H (if kvs.length ≤ 15 then mkD m (mergeD [] kvs) st1 else .no) := h
      by_cases h15 : kvs.length ≤ 15
      · rw [if_pos h15] at h
        obtain ⟨ws, rfl, dk⟩ := datP_keys d qk
        refine ⟨hp', ws, rfl, by rw [dk.length]; exact h15, ?_⟩
        have hL' : μ'.L p := e.lv p (.inr rfl)
        have hn' : ∀ j, j < st1.length → μ' j ≠ p := fun j hj z => by
          by_cases hj2 : j < st.length
          · exact hnp j hj2 (by rw [← e.mu j hj2]; exact z)
          · have w := e.new j (by omega) hj
            rw [z, upd_same] at w; cases w
        obtain ⟨Wm, Rm⟩ := hold_setO (C := C) r (o := .dK (mergeK [] ws)) (fun _ z => by cases z) (fun _ _ z => by cases z) hL' hn'
        exact end_madeD hp nlp ((Eh.trans e).mut hp) Rm upd_same hL' hn' ((DatK.merge dk .nil).wx Wm) h
      · rw [if_neg h15] at h; exact False.elim h
end
/-! ### tuples told over -/
section
variable {C : Cf} {X : Cx}
theorem DatL.repn {K : PySem.W.Frag} {n : Nat} {μ : Mu} {H : Hp} {xs : List V} {us : List D} (h : DatL K n μ H xs us) : ∀ k : Nat, DatL K n μ H (List.replicate k xs).flatten (List.replicate k us).flatten
  | 0 => .nil
  | k + 1 => by
    rw [List.replicate_succ, List.replicate_succ, List.flatten_cons, List.flatten_cons]
    exact h.append (DatL.repn h k)
end
end Mi
/-! Mi11g: live dicts: d[k] = v, d.get(k, x). -/
namespace Mi
open PySem L2
/-- d[k] = x in the store -/
def stoAt (x k : D) (st : Store) (ρ : Rho) : D → OS
  | .ref i => match st[i]?, keyD k with
    | some (.dct kvs), some k => if kvs.length < 1000000 then .nx ρ (st.set i (.dct (putKD kvs k x))) else .no
    | _, _ => .no
  | _ => .no
def sSto (v o i : M D) : MS := fun ρ st => (v ρ st).toS ρ fun x st1 => (o ρ st1).toS ρ fun d st2 => (i ρ st2).toS ρ fun k st3 => stoAt x k st3 ρ d
section
variable {C : Cf} {X : Cx} {W : WX} {σ : L2.St} {H : Hp} {μ : Mu} {st : Store} {K : PySem.W.Frag} {n : Nat}
theorem putKD_len (kvs : List (Key × D)) (k : Key) (x : D) : (putKD kvs k x).length ≤ kvs.length + 1 := by
  unfold putKD
  split
  · rw [List.length_map]; omega
  · rw [List.length_append]; simp
theorem DatK.len : ∀ {vs : List (Key × V)} {ds : List (Key × D)}, DatK K n μ H vs ds → vs.length = ds.length
  | _, _, .nil => rfl
  | _, _, .cons _ _ t => by rw [List.length_cons, List.length_cons, DatK.len t]
theorem stoAt_ok {x k d : D} {y u v : V} {ρ : Rho} {D : Ends} (R : C.Rel μ st H) (E : C.Env st.length μ H σ ρ) (hy : Dat C.K st.length μ H y x) (hd : Dat C.K st.length μ H v d) (hu : Dat C.K st.length μ H u k) (h : PostS C W D st.length μ H (stoAt x k st ρ d)) :
    ∃ a H4, v = .ref a ∧ DPut H a u y H4 ∧ D.nx σ H4 := by
  cases d with
  | ref i =>
    have h' : PostS C W D st.length μ H (match st[i]?, keyD k with
      | some (.dct kvs), some k => if kvs.length < 1000000 then .nx ρ (st.set i (.dct (putKD kvs k x))) else .no
      | _, _ => .no) := h
    cases hd with
    | ref hi =>
      cases q : st[i]? with
      | none => rw [q] at h'; exact False.elim h'
      | some o =>
        cases e : keyD k with
        | none => rw [q, e] at h'; cases o <;> exact False.elim h'
        | some k' =>
          rw [q, e] at h'
          cases o with
          | dct kvs =>
            dsimp only at h'
            by_cases hc : kvs.length < 1000000
            · rw [if_pos hc] at h'
              obtain ⟨vs, g1, g2, g3⟩ := R.obj i _ q
              have eu := key_of hu e
              have E2 := R.ext_set (o := .dK (putK vs k' y)) q rfl
              have el : (st.set i (.dct (putKD kvs k' x))).length = st.length := List.length_set
              have lv := DatK.len g2
              refine ⟨_, _, rfl, by rw [eu]; exact DPut.k g1 (by unfold sizeLine; omega), h' σ μ _ (by rw [el]; exact E2) ?_ (by rw [el]; exact E.ext E2)⟩
              refine R.set q rfl (fun _ z => by cases z) (fun _ _ z => by cases z) ⟨_, upd_same, (DatK.putk (key_ok hu e) hy g2).ext E2, ?_⟩
              have := putKD_len kvs k' x
              unfold sizeLine
              omega
            · rw [if_neg hc] at h'; exact False.elim h'
          | lst _ => exact False.elim h'
          | ins _ _ => exact False.elim h'
          | lck _ => exact False.elim h'
  | _ => exact False.elim h
theorem td_sSto {v o i : M D} {D : Ends} (h : TDS C W (sSto v o i) D σ H) : sDPut (TD C W o) (TD C W i) (TD C W v) D σ H := by
  obtain ⟨μ, ρ, st, R, E, h⟩ := h
  refine td_first (R := Dat) (k := fun x ρ st1 => (o ρ st1).toS ρ fun d st2 => (i ρ st2).toS ρ fun k st3 => stoAt x k st3 ρ d) R E h fun y x st1 μ1 H1 _ e1 R1 E1 d1 h1 => ?_
  refine td_first (R := Dat) (k := fun d ρ st2 => (i ρ st2).toS ρ fun k st3 => stoAt x k st3 ρ d) R1 E1 h1 fun u d st2 μ2 H2 _ e2 R2 E2 d2 h2 => ?_
  refine td_first (R := Dat) (k := fun k ρ st3 => stoAt x k st3 ρ d) R2 E2 h2 fun w k st3 μ3 H3 _ e3 R3 E3 d3 h3 => ?_
  exact stoAt_ok R3 E3 ((d1.ext e2).ext e3) (d2.ext e3) d3 h3
end
/-! ### d.get(k), d.get(k, x) -/
def dGet (x : D) (xs : List D) (st : Store) : O D := match dctOf st x with
  | some kvs => match xs with
    | [k] => match keyD k with
      | some k => .ok ((valD kvs k).getD .non) st
      | none => .no
    | [k, z] => match keyD k with
      | some k => .ok ((valD kvs k).getD z) st
      | none => .no
    | _ => .no
  | none => .no
def pairsD : List D → Option (List (Key × D))
  | [] => some []
  | .tup [k, v] :: r => match keyD k, pairsD r with
    | some k, some kvs => some ((k, v) :: kvs)
    | _, _ => none
  | _ :: _ => none
/-- dict(d), dict([(k, v), ..]) -/
def dDict (m : Bool) (xs : List D) (st : Store) : O D := match xs with
  | [d] => match dctOf st d with
    | some kvs => mkD m kvs st
    | none => match listOf st d with
      | some l => match pairsD l with
        | some kvs => mkD m (mergeD [] kvs) st
        | none => .no
      | none => .no
  | _ => .no
section
variable {C : Cf} {X : Cx} {W : WX} {σ : L2.St} {H : Hp} {μ : Mu} {st : Store} {K : PySem.W.Frag} {n : Nat}
theorem mt_dget (hu : X.A.units + 1 < cLine) : MtR X "dict.get" (fun x xs H Q => ∃ a y o z, x = .ref a ∧ (xs = [y, z] ∨ xs = [y] ∧ z = .non) ∧ DGet H a y o ∧ Q (o.getD z) H) := by
  intro pins s σ H x xs v us Q I rx rs q
  obtain ⟨a, y, o, z, rfl, hx, g, q⟩ := q
  cases rx
  rcases hx with rfl | ⟨rfl, rfl⟩
  · obtain ⟨u1, u2, rfl, r1, r2⟩ := vals2 rs
    exact d_get2 hu I g r1 r2 fun w' s' I' r' => ⟨_, _, I', r', q⟩
  · obtain ⟨u1, rfl, r1⟩ := vals1 rs
    exact d_get1 hu I g r1 fun w' s' I' r' => ⟨_, _, I', r', q⟩
theorem snd_get (hu : X.A.units + 1 < cLine) : SndM C (fun x xs H Q => ∃ r, MtR X "dict.get" r ∧ r x xs H Q) dGet := by
  intro μ st H x a xs ds W σ Q R da dl h
  unfold dGet at h
  cases e : dctOf st a with
  | none => rw [e] at h; exact False.elim h
  | some kvs =>
    rw [e] at h
    obtain ⟨p, vs, rfl, hp, hv, _⟩ := dctOf_ok R da e
    cases dl with
    | nil => exact False.elim h
    | @cons v vs' d ds h1 h2 =>
      cases h2 with
      | nil =>
        dsimp only at h
        cases ek : keyD d with
        | none => rw [ek] at h; exact False.elim h
        | some k =>
          rw [ek] at h
          dsimp only at h
          have hy := key_of h1 ek
          subst hy
          refine ⟨_, mt_dget hu, p, _, valV vs k, .non, rfl, .inr ⟨rfl, rfl⟩, .inl ⟨vs, k, .inl hp, rfl, rfl⟩, ?_⟩
          rcases val_of k hv with ⟨g1, g2⟩ | ⟨v, d, g1, g2, g3⟩
          · rw [g2] at h; rw [g1]; exact Post.now R h .non
          · rw [g2] at h; rw [g1]; exact Post.now R h g3
      | @cons w ws' d2 ds2 h3 h4 =>
        cases h4 with
        | cons _ _ => exact False.elim h
        | nil =>
          dsimp only at h
          cases ek : keyD d with
          | none => rw [ek] at h; exact False.elim h
          | some k =>
            rw [ek] at h
            dsimp only at h
            have hy := key_of h1 ek
            subst hy
            refine ⟨_, mt_dget hu, p, _, valV vs k, _, rfl, .inl rfl, .inl ⟨vs, k, .inl hp, rfl, rfl⟩, ?_⟩
            rcases val_of k hv with ⟨g1, g2⟩ | ⟨v, d, g1, g2, g3⟩
            · rw [g2] at h; rw [g1]; exact Post.now R h h3
            · rw [g2] at h; rw [g1]; exact Post.now R h g3
theorem newDk (R : C.Rel μ st H) {m : Bool} {vs : List (Key × V)} {ys : List (Key × D)} {Q : VK} (h : Post C Dat W σ Q st.length μ H (mkD m ys st)) (hv : DatK C.K st.length μ H vs ys) {p : Addr} (hp : H p = none) : Q (.ref p) (upd H p (.dK vs)) := by
  have nlp := (R.fresh (o := .dK vs) hp).2
  obtain ⟨Eh, Rh⟩ := hold_extO (C := C) R (o := .dK vs) (fun _ z => by cases z) (fun _ _ z => by cases z) hp
  have hnp : ∀ j, j < st.length → (mhold μ p) j ≠ p := fun j hj => R.ne_new hj hp
  exact end_madeD hp nlp Eh Rh upd_same (.inr rfl) hnp (hv.ext Eh) h
theorem pairs_of : ∀ {vs : List V} {ds : List D} {kvs : List (Key × D)}, DatL K n μ H vs ds → pairsD ds = some kvs → ∃ (ps : List Addr) (ws : List (Key × V)), vs = ps.map V.ref ∧ Paired (fun p kv => SqT K H p [kV kv.1, kv.2]) ps ws ∧ DatK K n μ H ws kvs
  | _, _, kvs, .nil, e => by cases e; exact ⟨[], [], rfl, .nil, .nil⟩
  | _, _, kvs, .cons (v := v) (d := d) h t, e => by
    cases h with
    | @tup a xs ds hs hl hd =>
      cases hd with
      | nil => cases e
      | cons h1 t1 =>
        cases t1 with
        | nil => cases e
        | cons h2 t2 =>
          cases t2 with
          | cons _ _ => cases e
          | nil =>
            rename_i v1 d1 v2 d2
            have e' : (match keyD d1, pairsD _ with
              | some k, some kvs => some ((k, d2) :: kvs)
              | _, _ => none) = some kvs := e
            cases ek : keyD d1 with
            | none => rw [ek] at e'; cases e'
            | some k =>
              cases er : pairsD _ with
              | none => rw [ek, er] at e'; cases e'
              | some r =>
                rw [ek, er] at e'
                cases e'
                obtain ⟨ps, ws, rfl, g2, g3⟩ := pairs_of t er
                have hq := key_ok h1 ek
                have := key_of h1 ek
                subst this
                exact ⟨a :: ps, (k, v2) :: ws, rfl, .cons hs g2, .cons hq h2 g3⟩
    | _ => cases e
theorem snd_dict (hK : X.K = C.K) (hc : X.calm = true) (m : Bool) : SndL C (fun xs H Q => ∃ r, CallR X (.type "dict") r ∧ r xs H Q) (dDict m) := by
  intro μ st H xs ds W σ Q R hd h
  cases hd with
  | nil => exact False.elim h
  | @cons v vs d ds h1 h2 =>
    cases h2 with
    | cons _ _ => exact False.elim h
    | nil =>
      have h' : Post C Dat W σ Q st.length μ H (match dctOf st d with
        | some kvs => mkD m kvs st
        | none => match listOf st d with
          | some l => match pairsD l with
            | some kvs => mkD m (mergeD [] kvs) st
            | none => .no
          | none => .no) := h
      cases q : dctOf st d with
      | some kvs =>
        simp only [q] at h'
        obtain ⟨a, vs, rfl, ha, hv, _⟩ := dctOf_ok R h1 q
        exact ⟨_, call_dictD, a, vs, rfl, .inl ha, fun p hp => newDk R h' hv hp⟩
      | none =>
        simp only [q] at h'
        cases q2 : listOf st d with
        | none => simp only [q2] at h'; exact False.elim h'
        | some l =>
          simp only [q2] at h'
          cases q3 : pairsD l with
          | none => simp only [q3] at h'; exact False.elim h'
          | some kvs =>
            simp only [q3] at h'
            obtain ⟨a, vs, rfl, ha, hv, _⟩ := listOf_ok R h1 q2
            obtain ⟨ps, ws, rfl, g2, g3⟩ := pairs_of hv q3
            exact ⟨_, call_dictP hc, a, ps, ws, rfl, by rw [hK]; exact ha, by rw [hK]; exact g2, fun p hp => newDk R h' (DatK.merge g3 .nil) hp⟩
end
end Mi
/-! Mi11h: the place of a text in a tuple of texts. -/
namespace Mi
open PySem L2
def dIndex (x : D) (xs : List D) (st : Store) : O D := match x, xs with
  | .tup l, [.str z] => match strsD l with
    | some ys => match ys.findIdx? fun y => decide (y = z) with
      | some j => .ok (.int (j : Int)) st
      | none => .no
    | none => .no
  | _, _ => .no
section
variable {C : Cf} {X : Cx}
theorem snd_index (hK : X.K = C.K) : SndM C (fun x xs H Q => ∃ r, MtR X "tuple.index" r ∧ r x xs H Q) dIndex := by
  intro μ st H x a xs ds W σ Q R da dl h
  cases da with
  | @tup p vs l hs hl hd =>
    cases dl with
    | nil => exact False.elim h
    | @cons v vs' d ds h1 h2 =>
      cases h2 with
      | cons _ _ => cases d <;> exact False.elim h
      | nil =>
        cases h1 with
        | @str z hz ok =>
          have h' : Post C Dat W σ Q st.length μ H (match strsD l with
            | some ys => match ys.findIdx? fun y => decide (y = z) with
              | some j => .ok (.int (j : Int)) st
              | none => .no
            | none => .no) := h
          cases q : strsD l with
          | none => simp only [q] at h'; exact False.elim h'
          | some ys =>
            simp only [q] at h'
            cases q2 : ys.findIdx? fun y => decide (y = z) with
            | none => simp only [q2] at h'; exact False.elim h'
            | some j =>
              simp only [q2] at h'
              obtain ⟨e0, _⟩ := strs_of hd q
              rw [e0] at hs
              obtain ⟨hj, e1, e2⟩ := List.findIdx?_eq_some_iff_getElem.mp q2
              refine ⟨_, mt_tup_index, p, ys, z, j, rfl, rfl, by rw [hK]; exact hs, ?_, fun m hm e => ?_, Post.now R h' (.int _)⟩
              · rw [List.getElem?_eq_getElem hj, of_decide_eq_true e1]
              · have := e2 m hm
                obtain ⟨hm', e⟩ := List.getElem?_eq_some_iff.mp e
                exact this (decide_eq_true e)
        | _ => exact False.elim h
  | _ => cases dl with
    | nil => exact False.elim h
    | cons _ _ => exact False.elim h
end
end Mi
/-! Mi11i: walks over live dicts: the dict is locked meanwhile; list(d.values()). -/
namespace Mi
open PySem L2

/-! ### locking -/
section
variable {C : Cf} {μ : Mu} {st : Store} {H : Hp} {n : Nat}
/-- what is held no more, an object that is no tuple being changed -/
theorem dat_lock {p : Addr} {o u : HO} (hp : μ.L p) (hu : H p = some u) (h1 : ∀ xs, u ≠ .tup xs) (h2 : ∀ b x, u ≠ .frz b x) : Wx n μ H n μ (upd H p o) := by
  refine ⟨Nat.le_refl _, fun _ _ => rfl, fun a u' h nl => by rw [upd_ne (fun z => nl (by rw [z]; exact hp))]; exact h, fun j h1 h2 => absurd h1 (by omega), fun _ h => h, fun _ h => .inl h, fun a xs h => ?_, fun a h => ?_⟩
  · rcases h with h | ⟨b, h⟩
    · exact .inl (by rw [upd_ne (fun z => by rw [z, hu] at h; exact h1 _ (Option.some.inj h))]; exact h)
    · exact .inr ⟨b, by rw [upd_ne (fun z => by rw [z, hu] at h; exact h2 _ _ (Option.some.inj h))]; exact h⟩
  · by_cases e : a = p
    · rw [e, upd_same] at h; cases h
    · rw [upd_ne e] at h; exact h
theorem free_L {p a : Addr} (z : (mfree μ p).L a) : μ.L a := z.1
theorem lock_rel (R : C.Rel μ st H) {i : Nat} {kvs : List (Key × D)} (q : st[i]? = some (.dct kvs)) {vs : List (Key × V)} (hv : H (μ i) = some (.dK vs)) (dv : DatK C.K st.length μ H vs kvs) (hl : kvs.length ≤ sizeLine) (od : Obj) :
    C.Rel (mfree μ (μ i)) (st.set i (.lck kvs)) (upd H (μ i) (.frz od (.dK vs))) := by
  have hi := (List.getElem?_eq_some_iff.mp q).1
  have hp := R.liv i _ q rfl
  have E : Wx st.length μ H st.length μ (upd H (μ i) (.frz od (.dK vs))) := dat_lock hp hv (fun _ z => by cases z) (fun _ _ z => by cases z)
  have el : (st.set i (Ob.lck kvs)).length = st.length := List.length_set
  refine ⟨fun j k hj hk e => R.inj j k (by rw [el] at hj; exact hj) (by rw [el] at hk; exact hk) e, fun j o q2 => ?_, fun j o q2 hu => ?_, fun a z => ?_⟩
  · rw [el]
    by_cases h1 : i = j
    · subst h1
      rw [List.getElem?_set_self hi] at q2
      cases q2
      exact ⟨vs, od, upd_same, (dv.wx E).less (μ := μ) (μ' := mfree μ (μ i)) (Nat.le_refl _) (fun _ _ => rfl) (fun a (z : (mfree μ (μ i)).L a) => z.1), hl⟩
    · rw [List.getElem?_set_ne h1] at q2
      have hj := (List.getElem?_eq_some_iff.mp q2).1
      exact ((R.obj j o q2).wx E fun u hu => by rw [upd_ne (fun z => h1 (R.inj j i hj hi z).symm)]; exact hu).less (μ := μ) (μ' := mfree μ (μ i)) (Nat.le_refl _) (fun _ _ => rfl) (fun a (z : (mfree μ (μ i)).L a) => z.1)
  · by_cases h1 : i = j
    · subst h1
      rw [List.getElem?_set_self hi] at q2
      cases q2
      cases hu
    · rw [List.getElem?_set_ne h1] at q2
      have hj := (List.getElem?_eq_some_iff.mp q2).1
      exact ⟨R.liv j o q2 hu, fun z => h1 (R.inj j i hj hi z).symm⟩
  · obtain ⟨u, h, h'⟩ := R.trk a z.1
    exact ⟨u, by rw [upd_ne z.2]; exact h, h'⟩
/-- unlocking: what is read stays -/
theorem un_ne {p a : Addr} {od : Obj} {vs : List (Key × V)} (hp : H p = some (.frz od (.dK vs))) {u : HO} (h : H a = some u) (hne : u ≠ .frz od (.dK vs)) : a ≠ p := fun z => by
  rw [z, hp] at h
  exact hne (Option.some.inj h).symm
mutual
theorem Dat.unlock {K : PySem.W.Frag} {p : Addr} {od : Obj} {vs : List (Key × V)} (hp : H p = some (.frz od (.dK vs))) : ∀ {v : V} {d : D}, Dat K n μ H v d → Dat K n (mhold μ p) (upd H p (.dK vs)) v d
  | _, _, .non => .non
  | _, _, .bl b => .bl b
  | _, _, .int i => .int i
  | _, _, .str h ok => .str h ok
  | _, _, .tup h hl hs => .tup (by
      rcases h with (h | ⟨b, h⟩) | h
      · exact .inl (.inl (by rw [upd_ne (un_ne hp h (fun z => by cases z))]; exact h))
      · exact .inl (.inr ⟨b, by rw [upd_ne (un_ne hp h (fun z => by cases z))]; exact h⟩)
      · exact .inr h) hl (DatL.unlock hp hs)
  | _, _, .lst h nl hl hs => by
      have ne := un_ne hp h (fun z => by cases z)
      exact .lst (by rw [upd_ne ne]; exact h) (fun z => z.elim nl ne) hl (DatL.unlock hp hs)
  | _, _, .dct h nl hl hs => by
      have ne := un_ne hp h (fun z => by cases z)
      exact .dct (by rw [upd_ne ne]; exact h) (fun z => z.elim nl ne) hl (DatK.unlock hp hs)
  | _, _, .frz h hl hs => .frz (by
      rcases h with ⟨⟨o, h⟩, nl⟩ | h
      · have ne := un_ne hp h (fun z => by cases z)
        exact .inl ⟨⟨o, by rw [upd_ne ne]; exact h⟩, fun z => z.elim nl ne⟩
      · exact .inr h) hl (DatL.unlock hp hs)
  | _, _, .ref h => .ref (μ := mhold μ p) h
theorem DatL.unlock {K : PySem.W.Frag} {p : Addr} {od : Obj} {vs : List (Key × V)} (hp : H p = some (.frz od (.dK vs))) : ∀ {v : List V} {d : List D}, DatL K n μ H v d → DatL K n (mhold μ p) (upd H p (.dK vs)) v d
  | _, _, .nil => .nil
  | _, _, .cons h t => .cons (Dat.unlock hp h) (DatL.unlock hp t)
theorem DatK.unlock {K : PySem.W.Frag} {p : Addr} {od : Obj} {vs : List (Key × V)} (hp : H p = some (.frz od (.dK vs))) : ∀ {v : List (Key × V)} {d : List (Key × D)}, DatK K n μ H v d → DatK K n (mhold μ p) (upd H p (.dK vs)) v d
  | _, _, .nil => .nil
  | _, _, .cons q h t => .cons q (Dat.unlock hp h) (DatK.unlock hp t)
end
theorem DatF.unlock {K : PySem.W.Frag} {p : Addr} {od : Obj} {vs : List (Key × V)} (hp : H p = some (.frz od (.dK vs))) : ∀ {v : List (Str × V)} {d : List (Str × D)}, DatF K n μ H v d → DatF K n (mhold μ p) (upd H p (.dK vs)) v d
  | _, _, .nil => .nil
  | _, _, .cons h t => .cons (Dat.unlock hp h) (DatF.unlock hp t)
theorem EnvR.unlock {K : PySem.W.Frag} {σ : L2.St} {ρ : Rho} {p : Addr} {od : Obj} {vs : List (Key × V)} (hp : H p = some (.frz od (.dK vs))) (h : EnvR K n μ H σ ρ) : EnvR K n (mhold μ p) (upd H p (.dK vs)) σ ρ := ⟨h.len, fun i d q => by
  obtain ⟨v, h1, h2⟩ := h.at_ i d q
  exact ⟨v, h1, h2.unlock hp⟩⟩
theorem unlock_rel (R : C.Rel μ st H) {i : Nat} {kvs : List (Key × D)} (q : st[i]? = some (.lck kvs)) {vs : List (Key × V)} {od : Obj} (hv : H (μ i) = some (.frz od (.dK vs))) :
    C.Rel (mhold μ (μ i)) (st.set i (.dct kvs)) (upd H (μ i) (.dK vs)) := by
  have hi := (List.getElem?_eq_some_iff.mp q).1
  have el : (st.set i (Ob.dct kvs)).length = st.length := List.length_set
  obtain ⟨vs', o', g1, g2, g3⟩ := R.obj i _ q
  rw [hv] at g1
  cases g1
  refine ⟨fun j k hj hk e => R.inj j k (by rw [el] at hj; exact hj) (by rw [el] at hk; exact hk) e, fun j o q2 => ?_, fun j o q2 hu => ?_, fun a z => ?_⟩
  · rw [el]
    by_cases h1 : i = j
    · subst h1
      rw [List.getElem?_set_self hi] at q2
      cases q2
      exact ⟨vs, upd_same, g2.unlock hv, g3⟩
    · rw [List.getElem?_set_ne h1] at q2
      have hj := (List.getElem?_eq_some_iff.mp q2).1
      have ne : μ j ≠ μ i := fun z => h1 (R.inj j i hj hi z).symm
      have O := R.obj j o q2
      show ObR C.K C.cls st.length (mhold μ (μ i)) (upd H (μ i) (.dK vs)) (μ j) o
      cases o with
      | lst ds => obtain ⟨ws, h, d, z⟩ := O; exact ⟨ws, by rw [upd_ne ne]; exact h, d.unlock hv, z⟩
      | dct ds => obtain ⟨ws, h, d, z⟩ := O; exact ⟨ws, by rw [upd_ne ne]; exact h, d.unlock hv, z⟩
      | ins c fs => obtain ⟨dx, ws, h, d, z⟩ := O; exact ⟨dx, ws, by rw [upd_ne ne]; exact h, d.unlock hv, z⟩
      | lck ds => obtain ⟨ws, oo, h, d, z⟩ := O; exact ⟨ws, oo, by rw [upd_ne ne]; exact h, d.unlock hv, z⟩
  · by_cases h1 : i = j
    · subst h1; exact .inr rfl
    · rw [List.getElem?_set_ne h1] at q2
      exact .inl (R.liv j o q2 hu)
  · by_cases e : a = μ i
    · rw [e]; exact ⟨_, upd_same, (fun _ z => by cases z), (fun _ _ z => by cases z)⟩
    · obtain ⟨u, h, h'⟩ := R.trk a (z.resolve_right e)
      exact ⟨u, by rw [upd_ne e]; exact h, h'⟩
theorem lock_env {K : PySem.W.Frag} {σ : L2.St} {ρ : Rho} {p : Addr} {vs : List (Key × V)} (hp : μ.L p) (hv : H p = some (.dK vs)) (od : Obj) (E : EnvR K n μ H σ ρ) : EnvR K n (mfree μ p) (upd H p (.frz od (.dK vs))) σ ρ := by
  have E1 := E.wx (dat_lock (o := .frz od (.dK vs)) hp hv (fun _ z => by cases z) (fun _ _ z => by cases z))
  exact ⟨E1.len, fun i d q => by
    obtain ⟨v, h1, h2⟩ := E1.at_ i d q
    exact ⟨v, h1, h2.less (μ := μ) (μ' := mfree μ p) (Nat.le_refl _) (fun _ _ => rfl) (fun a (z : (mfree μ p).L a) => z.1)⟩⟩
/-- there and back -/
theorem unlock_ext {n2 : Nat} {μ2 : Mu} {H2 : Hp} {i : Nat} (hi : i < n) {vs : List (Key × V)} {od : Obj} (hL : μ.L (μ i)) (hv : H (μ i) = some (.dK vs)) (E : Ext n (mfree μ (μ i)) (upd H (μ i) (.frz od (.dK vs))) n2 μ2 H2) :
    H2 (μ i) = some (.frz od (.dK vs)) ∧ μ2 i = μ i ∧ Ext n μ H n2 (mhold μ2 (μ i)) (upd H2 (μ i) (.dK vs)) := by
  have nl : ¬ (mfree μ (μ i)).L (μ i) := fun z => z.2 rfl
  have g1 := E.keep (μ i) _ upd_same nl
  have g2 : μ2 i = μ i := E.mu i hi
  refine ⟨g1, g2, ⟨⟨E.le, E.mu, fun a o h nl => ?_, fun j h1 h2 => ?_, fun a h => ?_, fun a h => ?_, fun a xs h => ?_, fun a h => ?_⟩, fun a o h nm => ?_⟩⟩
  · have ne : a ≠ μ i := fun z => nl (by rw [z]; exact hL)
    rw [upd_ne ne]
    exact E.keep a o (by rw [upd_ne ne]; exact h) (fun z => nl z.1)
  · have w : upd H (μ i) (.frz od (.dK vs)) (μ2 j) = none := E.new j h1 h2
    show H (μ2 j) = none
    by_cases e : μ2 j = μ i
    · rw [e, upd_same] at w; cases w
    · rw [upd_ne e] at w; exact w
  · by_cases e : a = μ i
    · exact .inr e
    · exact .inl (E.lv a ⟨h, e⟩)
  · rcases h with h | h
    · rcases E.fr a h with z | z
      · exact .inl z.1
      · by_cases e : a = μ i
        · rw [e, upd_same] at z; cases z
        · rw [upd_ne e] at z; exact .inr z
    · exact .inl (by rw [h]; exact hL)
  · have ne : a ≠ μ i := fun z => by
      rw [z] at h
      rcases h with h | ⟨b, h⟩ <;> (rw [hv] at h; cases h)
    have := E.tups a xs (by
      rcases h with h | ⟨b, h⟩
      · exact .inl (by rw [upd_ne ne]; exact h)
      · exact .inr ⟨b, by rw [upd_ne ne]; exact h⟩)
    rcases this with h | ⟨b, h⟩
    · exact .inl (by rw [upd_ne ne]; exact h)
    · exact .inr ⟨b, by rw [upd_ne ne]; exact h⟩
  · by_cases e : a = μ i
    · rw [e, upd_same] at h; cases h
    · rw [upd_ne e] at h
      have := E.dom a h
      rw [upd_ne e] at this; exact this
  · have ne : a ≠ μ i := fun z => nm i hi z.symm
    rw [upd_ne ne]
    exact E.all a o (by rw [upd_ne ne]; exact h) nm
end
/-- which dict is to be locked -/
def pickK (a : M D) (ρ : Rho) (st : Store) : Option (Nat × List (Key × D)) := match a ρ st with
  | .ok (.ref i) _ => match st[i]? with
    | some (.dct kvs) => some (i, kvs)
    | _ => none
  | _ => none
open Classical in
noncomputable def unO (i : Nat) (kvs : List (Key × D)) : O D → O D
  | .ok d st => if st[i]? = some (.lck kvs) then .ok d (st.set i (.dct kvs)) else .no
  | _ => .no
noncomputable def mLock (a m : M D) : M D := fun ρ st => match pickK a ρ st with
  | some (i, kvs) => unO i kvs (m ρ (st.set i (.lck kvs)))
  | none => .no
open Classical in
noncomputable def unS (i : Nat) (kvs : List (Key × D)) : OS → OS
  | .nx ρ st => if st[i]? = some (.lck kvs) then .nx ρ (st.set i (.dct kvs)) else .no
  | .rt d st => if st[i]? = some (.lck kvs) then .rt d (st.set i (.dct kvs)) else .no
  | _ => .no
noncomputable def sLock (a : M D) (m : MS) : MS := fun ρ st => match pickK a ρ st with
  | some (i, kvs) => unS i kvs (m ρ (st.set i (.lck kvs)))
  | none => .no
section
variable {C : Cf} {X : Cx} {W : WX} {σ : L2.St} {H : Hp}
theorem pick_ok {a : M D} {ρ : Rho} {st : Store} {i : Nat} {kvs : List (Key × D)} (h : pickK a ρ st = some (i, kvs)) : st[i]? = some (.dct kvs) := by
  unfold pickK at h
  split at h
  · rename_i j _ _
    split at h
    · rename_i k e
      cases h
      exact e
    · cases h
  · cases h
theorem td_lock {a m : M D} {Q : VK} (h : TD C W (mLock a m) σ H Q) : tLockE (TD C W m) σ H Q := by
  obtain ⟨μ, ρ, st, R, E, h⟩ := h
  unfold mLock at h
  cases q : pickK a ρ st with
  | none => rw [q] at h; exact False.elim h
  | some ik =>
    obtain ⟨i, kvs⟩ := ik
    rw [q] at h
    dsimp only at h
    have q := pick_ok q
    obtain ⟨vs, hv, dv, hl⟩ := R.obj i _ q
    have hL := R.liv i _ q rfl
    have hi := (List.getElem?_eq_some_iff.mp q).1
    have el : (st.set i (Ob.lck kvs)).length = st.length := List.length_set
    refine ⟨μ i, .dK vs, hv, trivial, fun od => ⟨mfree μ (μ i), ρ, st.set i (.lck kvs), lock_rel R q hv dv hl od, by rw [el]; exact lock_env hL hv od E, ?_⟩⟩
    rw [el]
    cases q2 : m ρ (st.set i (.lck kvs)) with
    | no => rw [q2] at h; exact False.elim h
    | ex x s => rw [q2] at h; exact False.elim h
    | ok d st2 =>
      rw [q2] at h
      unfold unO at h
      dsimp only at h
      split at h
      · rename_i hc
        intro v μ2 H2 E2 R2 d2
        obtain ⟨g1, g2, g3⟩ := unlock_ext hi hL hv E2
        refine ⟨g1, ?_⟩
        have R3 := unlock_rel R2 hc (vs := vs) (od := od) (by rw [g2]; exact g1)
        rw [g2] at R3
        have el2 : (st2.set i (Ob.dct kvs)).length = st2.length := List.length_set
        exact h v _ _ (by rw [el2]; exact g3) R3 (by rw [el2]; exact d2.unlock g1)
      · exact False.elim h
theorem td_lockS {a : M D} {m : MS} {D : Ends} (h : TDS C W (sLock a m) D σ H) : tLock (TDS C W m) D σ H := by
  obtain ⟨μ, ρ, st, R, E, h⟩ := h
  unfold sLock at h
  cases q : pickK a ρ st with
  | none => rw [q] at h; exact False.elim h
  | some ik =>
    obtain ⟨i, kvs⟩ := ik
    rw [q] at h
    dsimp only at h
    have q := pick_ok q
    obtain ⟨vs, hv, dv, hl⟩ := R.obj i _ q
    have hL := R.liv i _ q rfl
    have hi := (List.getElem?_eq_some_iff.mp q).1
    have el : (st.set i (Ob.lck kvs)).length = st.length := List.length_set
    refine ⟨μ i, .dK vs, hv, trivial, fun od => ⟨mfree μ (μ i), ρ, st.set i (.lck kvs), lock_rel R q hv dv hl od, by rw [el]; exact lock_env hL hv od E, ?_⟩⟩
    rw [el]
    cases q2 : m ρ (st.set i (.lck kvs)) with
    | no => rw [q2] at h; exact False.elim h
    | ex x r s => rw [q2] at h; exact False.elim h
    | bk r s => rw [q2] at h; exact False.elim h
    | ct r s => rw [q2] at h; exact False.elim h
    | nx r st2 =>
      rw [q2] at h
      unfold unS at h
      dsimp only at h
      split at h
      · rename_i hc
        intro σ2 μ2 H2 E2 R2 d2
        obtain ⟨g1, g2, g3⟩ := unlock_ext hi hL hv E2
        refine ⟨g1, ?_⟩
        have R3 := unlock_rel R2 hc (vs := vs) (od := od) (by rw [g2]; exact g1)
        rw [g2] at R3
        have el2 : (st2.set i (Ob.dct kvs)).length = st2.length := List.length_set
        exact h σ2 _ _ (by rw [el2]; exact g3) R3 (by rw [el2]; exact EnvR.unlock g1 d2)
      · exact False.elim h
    | rt d st2 =>
      rw [q2] at h
      unfold unS at h
      dsimp only at h
      split at h
      · rename_i hc
        intro v μ2 H2 E2 R2 d2
        obtain ⟨g1, g2, g3⟩ := unlock_ext hi hL hv E2
        refine ⟨g1, ?_⟩
        have R3 := unlock_rel R2 hc (vs := vs) (od := od) (by rw [g2]; exact g1)
        rw [g2] at R3
        have el2 : (st2.set i (Ob.dct kvs)).length = st2.length := List.length_set
        exact h v _ _ (by rw [el2]; exact g3) R3 (by rw [el2]; exact d2.unlock g1)
      · exact False.elim h
/-- the keys of a locked dict -/
def mKeys (a : M D) : M Src := fun ρ st => (a ρ st).bind fun d st1 => match d with
  | .ref i => match st1[i]? with
    | some (.lck kvs) => .ok ⟨kvs.map fun kv => unK kv.1, [(i, .lck kvs)]⟩ st1
    | _ => .no
  | _ => .no
theorem keys_at' {K : PySem.W.Frag} {n : Nat} {μ : Mu} : ∀ {vs : List (Key × V)} {ds : List (Key × D)} {i : Nat} {k : Key} {v : V}, DatK K n μ H vs ds → vs[i]? = some (k, v) → ∃ d, ds[i]? = some (k, d) ∧ KeyOk k
  | _, _, _, _, _, .nil, h => by simp at h
  | _, _, 0, _, _, .cons q _ _, h => by simp at h; obtain ⟨rfl, rfl⟩ := h; exact ⟨_, rfl, q⟩
  | _, _, i + 1, k, v, .cons _ _ t, h => by
    obtain ⟨d, h1, h2⟩ := keys_at' (i := i) (k := k) (v := v) t (by simpa using h)
    exact ⟨d, by simpa using h1, h2⟩
theorem dat_key {K : PySem.W.Frag} {n : Nat} {μ : Mu} {k : Key} (q : KeyOk k) : Dat K n μ H (kV k) (unK k) := by
  cases k with
  | inl i => exact .int i
  | inr s => exact .str q.1 q.2
theorem wk_keys {μ : Mu} {st : Store} (R : C.Rel μ st H) {i : Nat} {kvs : List (Key × D)} (q : st[i]? = some (.lck kvs)) {vs : List (Key × V)} {o : Obj} (hv : H (μ i) = some (.frz o (.dK vs))) (dv : DatK C.K st.length μ H vs kvs) :
    Wk C (Itk (μ i) o vs) ⟨kvs.map fun kv => unK kv.1, [(i, .lck kvs)]⟩ st.length μ H := by
  have hi := (List.getElem?_eq_some_iff.mp q).1
  have hlen : (kvs.map fun kv => unK kv.1).length = vs.length := by rw [List.length_map, dv.length]
  have nl : ¬ μ.L (μ i) := fun z => by
    obtain ⟨u, h, _, h'⟩ := R.trk _ z
    rw [hv] at h
    exact h' o (.dK vs) (Option.some.inj h).symm
  have stay : ∀ {n1 : Nat} {μ1 : Mu} {H1 : Hp}, Ext st.length μ H n1 μ1 H1 → H1 (μ i) = some (.frz o (.dK vs)) := fun e => e.keep _ _ hv nl
  refine ⟨fun st1 μ1 H1 e R1 hg => ⟨stay e, by show vs.length ≤ (kvs.map fun kv => unK kv.1).length; omega⟩, fun st1 μ1 H1 e R1 hg j hj => ⟨stay e, by have hj : j < (kvs.map fun kv => unK kv.1).length := hj; omega⟩, fun st1 μ1 H1 e R1 hg j d x H2 hd hy => ?_⟩
  obtain ⟨rfl, k, v, hk, rfl⟩ := hy
  obtain ⟨d', h1, h2⟩ := keys_at' dv hk
  have hd : (kvs.map fun kv => unK kv.1)[j]? = some d := hd
  rw [List.getElem?_map, h1] at hd
  cases hd
  exact ⟨Ext.refl, R1, dat_key h2⟩
theorem pi_keysD {tg e : Expr} {m : M D} (he : PE X e (TD C W m)) : PI X tg e (TDI C W (mKeys m)) := by
  refine PI.choose fun σ H Q h => ⟨_, pi_keys he, ?_⟩
  obtain ⟨μ, ρ, st, R, E, h⟩ := h
  refine ⟨μ, ρ, st, R, E, (Post.bind (R := Dat) h).imp fun v H1 ⟨d, st1, μ1, _, e1, R1, d1, h1⟩ => ?_⟩
  cases d1 with
  | @ref i hi =>
    have h1 : Post C (RI C) W σ Q st1.length μ1 H1 (match st1[i]? with
      | some (.lck kvs) => .ok ⟨kvs.map fun kv => unK kv.1, [(i, .lck kvs)]⟩ st1
      | _ => .no) := h1
    cases q : st1[i]? with
    | none => rw [q] at h1; exact False.elim h1
    | some o =>
      rw [q] at h1
      cases o with
      | lck kvs =>
        obtain ⟨vs, oo, hv, dv, hl⟩ := R1.obj i _ q
        exact ⟨μ1 i, oo, rfl, .inl ⟨vs, hv, h1 (Itk (μ1 i) oo vs) μ1 H1 Ext.refl R1 ⟨wk_keys R1 q hv dv, by show (kvs.map fun kv => unK kv.1).length ≤ _; rw [List.length_map]; exact hl⟩⟩⟩
      | lst _ => exact False.elim h1
      | dct _ => exact False.elim h1
      | ins _ _ => exact False.elim h1
  | _ => exact False.elim h1
end
end Mi
/-! Mi11j: list(d.values()). -/
namespace Mi
open PySem PySem.Spec PyProof.Rows L2
def tListVals (te : TE) : TE := fun σ H Q => te σ H fun x H1 => ∃ (d : Addr) (kvs : List (Key × V)), x = .ref d ∧ H1 d = some (.dK kvs) ∧ ∀ p, H1 p = none → Q (.ref p) (upd H1 p (.lst (kvs.map (·.2))))
section
variable {X : Cx} {e : Expr} {te : TE} {p apos cpos pos : Pos}
theorem vals_kv : ∀ {kvs : List (Key × V)} {vs : List (Key × Value)}, KV kvs vs → Vals (kvs.map (·.2)) (vs.map (·.2))
  | _, _, .nil => .nil
  | _, _, .cons r t => .cons r.2 (vals_kv t)
theorem pe_listVals (hc : X.calm = true) (he : PE X e te) (hg : Gl X "list") (hm : X.mg "list" = none) (hv : bootBuiltins "list" = some (.type "list")) (hbase : attributeBase e "values" X.env (eval e X.env) = eval e X.env) (hline : (apos.endLine == cpos.line) = true)
    (hs : starEach [.Call (.Attribute e "values" apos) [] [] cpos] X.env = (false, eval (.Call (.Attribute e "values" apos) [] [] cpos) X.env) :: starEach [] X.env := by rfl) :
    PE X (.Call (.Name "list" p) [.Call (.Attribute e "values" apos) [] [] cpos] [] pos) (tListVals te) := by
  refine ⟨fun pins s σ H Q I hq => ?_⟩
  refine wpAny_Call_Name_kw (ld_blt I hg hm hv ?_)
  refine PyProof.Rows.callWith_type1 ?_ hs rfl
  rw [hs]
  show wpAny _ _ (spliced ((false, eval (.Call (.Attribute e "values" apos) [] [] cpos) X.env) :: backTo pos (starEach [] X.env))) _ _ s
  refine Calls.spliced_cons ?_
  refine wpAny_Call_method (T := "dict") (id := "dict.values") hbase rfl hline F.plainAttrs_dict F.slot_dict_values F.type_dict_values (thn (he.run pins s σ H _ I hq) fun u s1 ⟨x, H1, I1, rx, d, kvs, ex, hd, q⟩ => ?_)
  subst ex
  obtain rfl : u = Value.ref d := rx
  obtain ⟨hz, hs0, vs, kv, hdo⟩ := I1.hok d _ hd
  obtain ⟨ep, hat⟩ := hdo.dictAt
  have lk : kvs.length = vs.length := Paired.length kv
  have I2 : Inv X pins σ H1 { s1 with heap := s1.heap.push { cls := .type "dict_values", data := .fields #[.ref d] } } := I1.kept (t' := s1.toks) fun b ob q => Heap.get?_push_of_some _ q
  refine ⟨hdo.typeIs, hdo.mapOf.noDict, ?_⟩
  show wpAny _ _ (callWith cpos (.builtin "dict.values") [.ref d] [] []) _ X.xe s1
  refine method_meetsIn F.slot_dict_values F.entry_dict_values rfl (PySem.evalArgs_none ⟨rfl, hdo.typeIs, F.args_dict_values_1 _, _, meets_dict_values (mixKind X.prog X.w) d hs0, ⟨vs, hdo⟩, ?_⟩)
  refine Calls.spliced_nil ?_
  refine PySem.W.kdl_call (PySem.W.kdl_values (knd := mixKind X.prog X.w) (kvs := vs) (ep := ep)) (I1.ok.hd hc) ⟨⟨_, Heap.get?_push_size _ rfl, rfl, rfl⟩, hat.push _⟩ (by omega) fun h' tk acc c' hk hD hacc => ?_
  have ha : acc.toList = vs.map (·.2) := PySem.W.kdl_vals_eq acc.toList (by rw [Array.length_toList]; exact hacc.1) fun j v e => hacc.2 j v (by rw [← Array.getElem?_toList]; exact e)
  refine ⟨.ref _, upd H1 _ (.lst (kvs.map (·.2))), I2.laid (t' := tk) hk (Nat.le_refl _)
    (show ObjOk X.prog X.w _ _ _ (.lst (kvs.map (·.2))) from ⟨by rw [List.length_map]; exact hz, acc.toList, c', by rw [ha]; exact vals_kv kv, by rw [Array.toArray_toList]; exact hD⟩), rfl, q _ (I2.hok.fresh (Nat.le_refl _))⟩
end
def dVals (m : Bool) (d : D) (st : Store) : O D := match dctOf st d with
  | some kvs => mkL m (kvs.map (·.2)) st
  | none => .no
theorem DatK.vals {K : PySem.W.Frag} {n : Nat} {μ : Mu} {H : Hp} : ∀ {vs : List (Key × V)} {ds : List (Key × D)}, DatK K n μ H vs ds → DatL K n μ H (vs.map (·.2)) (ds.map (·.2))
  | _, _, .nil => .nil
  | _, _, .cons _ h t => .cons h (DatK.vals t)
theorem td_listVals {C : Cf} {W : WX} {m : Bool} {ma : M D} {σ : L2.St} {H : Hp} {Q : VK} (h : TD C W (mUn (dVals m) ma) σ H Q) : tListVals (TD C W ma) σ H Q := by
  obtain ⟨μ, ρ, st, R, E, h⟩ := h
  refine ⟨μ, ρ, st, R, E, (Post.bind (R := Dat) h).imp fun v H1 ⟨a, st1, μ1, _, e1, R1, d1, h1⟩ => ?_⟩
  have h1 : Post C Dat W σ Q st1.length μ1 H1 (match dctOf st1 a with
    | some kvs => mkL m (kvs.map (·.2)) st1
    | none => .no) := h1
  cases q : dctOf st1 a with
  | none => rw [q] at h1; exact False.elim h1
  | some kvs =>
    rw [q] at h1
    obtain ⟨p, vs, rfl, hp, hv, _⟩ := dctOf_ok R1 d1 q
    exact ⟨p, vs, rfl, hp, fun z hz => newL R1 h1 hv.vals hz⟩
end Mi
/-! Mi11k: raise E('..'), try: .. except E: .. -/
namespace Mi
open PySem L2
def sRaise (c : Nat) : MS := fun ρ st => .ex ⟨c, []⟩ ρ st
/-- what is caught -/
def tryO (ok : Nat → Option Bool) (h : MS) (x : Xc) (ρ : Rho) (st : Store) : Option Bool → OS
  | some true => h ρ st
  | some false => .ex x ρ st
  | none => .no
def sTry (ok : Nat → Option Bool) (b h : MS) : MS := fun ρ st => match b ρ st with
  | .ex x ρ1 st1 => tryO ok h x ρ1 st1 (ok x.c)
  | o => o
section
variable {C : Cf} {X : Cx} {W : WX} {D : Ends} {σ : L2.St} {H : Hp}
theorem td_raise {c : Nat} (h : TDS C W (sRaise c) D σ H) : W (.ref (C.xcl c)) none σ H := by
  obtain ⟨μ, ρ, st, R, E, h⟩ := h
  exact h (.ref (C.xcl c)) none σ μ H Ext.refl R E ⟨rfl, .inl rfl⟩
theorem td_try {ok : Nat → Option Bool} {b hd : MS} {c : Value} (hsub : ∀ i k, ok i = some k → PySem.W.exmOne C.K (.ref (C.xcl i)) c = some k) (h : TDS C W (sTry ok b hd) D σ H) : TDS C (wOnly C.K c (fun _ _ _ => TDS C W hd) W D) b D σ H := by
  obtain ⟨μ, ρ, st, R, E, h⟩ := h
  refine ⟨μ, ρ, st, R, E, ?_⟩
  unfold sTry at h
  cases q : b ρ st with
  | nx ρ1 st1 => rw [q] at h; exact h
  | rt d st1 => rw [q] at h; exact h
  | bk ρ1 st1 => rw [q] at h; exact h
  | ct ρ1 st1 => rw [q] at h; exact h
  | no => rw [q] at h; exact h
  | ex x ρ1 st1 =>
    rw [q] at h
    dsimp only at h
    intro cl dd σ' μ' H' e r env ex
    obtain ⟨rfl, _⟩ := id ex
    cases q2 : ok x.c with
    | none => rw [q2] at h; exact False.elim h
    | some k =>
      rw [q2] at h
      refine ⟨k, hsub _ _ q2, fun z a _ => ?_, fun z => ?_⟩
      · subst z
        exact ⟨μ', ρ1, st1, r, env, PostS.go e h⟩
      · subst z
        exact h _ dd σ' μ' H' e r env ex
end
end Mi
/-! Mi12: from the text to functions of data: expressions. -/
namespace Mi
open PySem L2

/-- what is known of the module: constants, defs (place, number of parameters), names that are built-in, which new lists and dicts are to be changed (by line and column) -/
structure Gs where
  con : Str → Option D
  fn : Str → Option (Nat × Nat)
  nob : List Str
  chg : Nat → Nat → Bool
  /-- own classes: number, place of the making method, how many more parameters it has -/
  cl : Str → Option (Nat × Nat × Nat)
  /-- methods: place, how many more parameters -/
  mth : Nat → Str → Option (Nat × Nat)
  /-- the fields of a class -/
  fld : Nat → List Str
  /-- names of methods -/
  own : List Str
  /-- dicts that are walked (by line and column): locked meanwhile -/
  lk : Nat → Nat → Bool
  /-- own exceptions without an __init__ -/
  xc : Str → Option Nat
  /-- which of them is of which -/
  xs : Nat → Nat → Option Bool
structure Gm where
  N : List Str
  sc : Scope
  fnC : Str → Bool
structure Fits (X : Cx) (Γ : Gm) : Prop where
  N : X.N = Γ.N
  sc : X.env.scope = Γ.sc
  fnC : ∀ x, Γ.fnC x = true → X.fn x = true

def mNo : M D := fun _ _ => .no
def mNoB : M Bool := fun _ _ => .no
def mNoL : M (List D) := fun _ _ => .no
def mNoI : M Src := fun _ _ => .no
def ixOf : List Str → Str → Option Nat
  | [], _ => none
  | y :: r, x => if y = x then some 0 else (ixOf r x).map (· + 1)
theorem ixOf_get : ∀ {N : List Str} {x : Str} {i : Nat}, ixOf N x = some i → N[i]? = some x
  | [], _, _, h => by cases h
  | y :: r, x, i, h => by
    unfold ixOf at h
    split at h
    · rename_i e
      cases h
      subst e
      rfl
    · obtain ⟨j, h1, rfl⟩ := map_some h
      simpa using ixOf_get h1
def plainN (x : Str) : Bool := !(x == ("__debug__" : Str)) && !(x == ("__classdict__" : Str)) && !(x == ("__name__" : Str))
def visB (sc : Scope) (x : Str) : Bool := match sc.names.lookup x with
  | some .local => true
  | some .cell => true
  | some .free => true
  | _ => false
def glB (sc : Scope) (x : Str) : Bool := match sc.names.lookup x with
  | some .globalImplicit => true
  | _ => false
def locB (Γ : Gm) (x : Str) : Bool := match Γ.sc.names.lookup x with
  | some .local => true
  | some .cell => Γ.fnC x
  | _ => false
def slotOf (Γ : Gm) (x : Str) : Option Nat := if visB Γ.sc x = true ∧ plainN x = true then ixOf Γ.N x else none
def noStar : Expr → Bool
  | .Starred _ _ => false
  | _ => true
def strFine (s : Str) : Bool := decide (s.length ≤ sizeLine) && PyData.strOk s
def cArgs (f : Expr → M D) : List Expr → M (List D)
  | [] => mNil
  | e :: r => mCons (f e) (cArgs f r)
def cBin (m : Bool) : Operator → M D → M D → M D
  | .Add, a, b => mBin (dAdd m) a b
  | .Sub, a, b => mBin dSub a b
  | .Mult, a, b => mBin (dMul m) a b
  | .FloorDiv, a, b => mBin dDiv a b
  | .Mod, a, b => mBin dMod a b
  | .Pow, a, b => mBin dPow a b
  | .BitAnd, a, b => mBin dAnd a b
  | .RShift, a, b => mBin dShr a b
  | _, _, _ => mNo
def cmpF : CmpOp → Option (D → D → Store → O D)
  | .Eq => some (dEq false)
  | .NotEq => some (dEq true)
  | .Lt => some dLt
  | .LtE => some dLe
  | .Gt => some dGt
  | .GtE => some dGe
  | .Is => some (dIs false)
  | .IsNot => some (dIs true)
  | .In => some (dIn false)
  | .NotIn => some (dIn true)
def plainIx : Expr → Bool
  | .Slice _ _ _ _ => false
  | _ => true
def baseOk : Expr → Bool
  | .Call (.Name _ _) [] [] _ => false
  | _ => true
def plainT : Expr → Bool
  | .UnaryOp .Not _ _ => false
  | .BoolOp _ _ _ => false
  | .IfExp _ _ _ _ => false
  | .Compare _ _ _ _ => false
  | _ => true
/-! ### isinstance -/
def tyOfD (d : D) (st : Store) : Option String := match d with
  | .non => some "NoneType"
  | .bl _ => some "bool"
  | .int _ => some "int"
  | .str _ => some "str"
  | .tup _ => some "tuple"
  | .lst _ => some "list"
  | .frz _ => some "list"
  | .dct _ => some "dict"
  | .ref i => match st[i]? with
    | some (.lst _) => some "list"
    | some (.dct _) => some "dict"
    | _ => none
def subT (t T : String) : Bool := t == T || (t == "bool" && T == "int")
def mIsi (Ts : List String) (a : M D) : M D := fun ρ st => (a ρ st).bind fun d st1 => match tyOfD d st1 with
  | some t => .ok (.bl (Ts.any (subT t))) st1
  | none => .no
def tyName (x : Str) : Option String := if x = "int" then some "int" else if x = "bool" then some "bool" else if x = "str" then some "str" else if x = "list" then some "list" else if x = "tuple" then some "tuple" else if x = "dict" then some "dict" else none
/-- isinstance of an object of just that own class -/
def mIsC (c : Nat) (a : M D) : M D := fun ρ st => (a ρ st).bind fun d st1 => match insAt st1 d with
  | some (c', _) => if c' = c then .ok (.bl true) st1 else .no
  | none => .no
def cIsi (G : Gs) (Γ : Gm) (a : M D) : Expr → M D
  | .Name T _ => match tyName T with
    | some t => if glB Γ.sc T = true ∧ T ∈ G.nob then mIsi [t] a else mNo
    | none => match G.cl T with
      | some (c, _, _) => if glB Γ.sc T = true ∧ plainN T = true then mIsC c a else mNo
      | none => mNo
  | .Tuple [.Name T _, .Name T2 _] _ _ => match tyName T, tyName T2 with
    | some t, some t2 => if glB Γ.sc T = true ∧ T ∈ G.nob ∧ glB Γ.sc T2 = true ∧ T2 ∈ G.nob then mIsi [t, t2] a else mNo
    | _, _ => mNo
  | _ => mNo
/-! ### calls of built-ins -/
def cBlt (m : Bool) (x : Str) (a : M (List D)) : M D :=
  if x = "len" then mApp dLen a else if x = "list" then mApp (dList m) a else if x = "tuple" then mApp dTuple a else if x = "int" then mApp dInt a else if x = "str" then mApp dStr a
  else if x = "sum" then mApp dSum a else if x = "all" then mApp (dAllAny true) a else if x = "any" then mApp (dAllAny false) a else if x = "sorted" then mApp (dSort m) a else if x = "dict" then mApp (dDict m) a else mNo
def cMeth (m : Bool) (x : Str) (o : M D) (args : List Expr) (a : M (List D)) : M D := match args with
  | [] => if x = "clear" then mMeth "list" dClear o mNil else mNo
  | [_] => if x = "append" then mMeth "list" dAppend o a else if x = "extend" then mMeth "list" dExtend o a else if x = "split" then mMeth "str" (dSplit m) o a else if x = "join" then mMeth "str" dJoin o a else if x = "pop" then mMeth "list" dPop o a else if x = "get" then mMeth "dict" dGet o a else mNo
  | [_, _] => if x = "get" then mMeth "dict" dGet o a else mNo
  | _ => mNo
abbrev Rec := Gm → Expr → M D × M Bool
/-! ### a text and a replaced one: 'a' + o.replace('c', 'z') -/
def replC (c : Nat) (z : List Nat) (l : List Nat) : List Nat := l.flatMap fun a => if a = c then z else [a]
def dRepl (c : Nat) (z : Str) (d : D) (st : Store) : O D := match d with
  | .str x => if x.length + (x.length + 1) * z.length ≤ 16777216 then .ok (.str ⟨(replC c z.cps.toList x.cps.toList).toArray⟩) st else .no
  | _ => .no
structure ReplP where
  s : Str
  o : Expr
  c : Nat
  z : Str
def replPat (op : Operator) (a b : Expr) : Option ReplP := match op, a, b with
  | .Add, .Constant (.str s) _ _, .Call (.Attribute o x apos) [.Constant (.str y) _ _, .Constant (.str z) _ _] [] pos => match y.cps.toList with
    | [c] => if x = "replace" ∧ (y == z) = false ∧ strFine s = true ∧ strFine z = true ∧ baseOk o = true ∧ (apos.endLine == pos.line) = true then some ⟨s, o, c, z⟩ else none
    | _ => none
  | _, _, _ => none
/-! ### targets, what is walked -/
def nameSlot (Γ : Gm) : Expr → Option Nat
  | .Name x _ => if locB Γ x = true then ixOf Γ.N x else none
  | _ => none
def namesSlots (Γ : Gm) : List Expr → Option (List Nat)
  | [] => some []
  | e :: r => match nameSlot Γ e, namesSlots Γ r with
    | some i, some is => some (i :: is)
    | _, _ => none
def tgtOf (Γ : Gm) : Expr → Option Tgt
  | .Name x p => (nameSlot Γ (.Name x p)).map .one
  | .Tuple es _ _ => (namesSlots Γ es).map .many
  | _ => none
def isTup : Expr → Bool
  | .Tuple _ _ _ => true
  | _ => false
def isSet : Expr → Bool
  | .Set _ _ _ => true
  | _ => false
noncomputable def cIter0 (G : Gs) (rec : Rec) (Γ : Gm) (tg : Expr) (e : Expr) : M Src := match e with
  | .Call (.Name x _) args [] _ =>
    if glB Γ.sc x = true ∧ x ∈ G.nob ∧ args.all noStar = true then
      (if x = "range" then (match args with
        | [a] => mRange1 (rec Γ a).1
        | [a, b] => mRange2 (rec Γ a).1 (rec Γ b).1
        | _ => mNoI)
      else if x = "enumerate" then (match args with
        | [a] => if isTup tg = true then mEnum (rec Γ a).1 else mNoI
        | _ => mNoI)
      else if x = "zip" then (match args with
        | [a, b] => if isTup tg = true then mZip (rec Γ a).1 (rec Γ b).1 else mNoI
        | _ => mNoI)
      else mItems (rec Γ e).1)
    else mItems (rec Γ e).1
  | e => if isSet e = true then mNoI else mItems (rec Γ e).1
noncomputable def cIter (G : Gs) (rec : Rec) (Γ : Gm) (tg : Expr) (e : Expr) : M Src := if G.lk e.pos.line e.pos.col = true then mKeys (rec Γ e).1 else cIter0 G rec Γ tg e
def ownOf (N : List Str) (scope : Scope) : List (Str × Nat) := scope.names.filterMap fun y => match y.2 with
  | .local => (ixOf N y.1).map fun i => (y.1, i)
  | .cell => (ixOf N y.1).map fun i => (y.1, i)
  | _ => none
def blkG (Γ : Gm) (scope : Scope) : Gm := ⟨Γ.N, relS scope Γ.sc, fun x => scope.names.lookup x == some .cell⟩
def mYes : M Bool := fun _ st => .ok true st
def cIfs (rec : Rec) (Γ : Gm) : List Expr → M Bool
  | [] => mYes
  | [c] => (rec Γ c).2
  | _ => mNoB
noncomputable def cComp (G : Gs) (rec : Rec) (Γ : Gm) (elt tg iter : Expr) (ifs : List Expr) (scope : Scope) (pos : Pos) : M D :=
  match tgtOf (blkG Γ scope) tg with
  | some t => if blkC Γ.N Γ.sc scope (ownOf Γ.N scope) = true ∧ t.slots.all (fun i => decide (i ∈ (ownOf Γ.N scope).map (·.2))) = true ∧ isSet iter = false then
      mLc (G.chg pos.line pos.col) (cIter G rec Γ tg iter) t ((ownOf Γ.N scope).map (·.2)) (cIfs rec (blkG Γ scope) ifs) (rec (blkG Γ scope) elt).1 else mNo
  | none => mNo
noncomputable def cCompL (G : Gs) (rec : Rec) (Γ : Gm) (elt tg iter : Expr) (ifs : List Expr) (scope : Scope) (pos : Pos) : M D :=
  if G.lk iter.pos.line iter.pos.col = true then mLock (rec Γ iter).1 (cComp G rec Γ elt tg iter ifs scope pos) else cComp G rec Γ elt tg iter ifs scope pos
def cPart (rec : Rec) (Γ : Gm) : Option Expr → M (Option Int)
  | none => mNoPart
  | some e => mPart (rec Γ e).1
def cAnds (rec : Rec) (Γ : Gm) : List Expr → M D
  | [] => mNo
  | [a] => (rec Γ a).1
  | a :: r => mAndV (rec Γ a).1 (cAnds rec Γ r)
def cOrs (rec : Rec) (Γ : Gm) : List Expr → M D
  | [] => mNo
  | [a] => (rec Γ a).1
  | a :: r => mOrV (rec Γ a).1 (cOrs rec Γ r)
def cAndsT (rec : Rec) (Γ : Gm) : List Expr → M Bool
  | [] => mNoB
  | [a] => (rec Γ a).2
  | a :: r => mAndT (rec Γ a).2 (cAndsT rec Γ r)
def cOrsT (rec : Rec) (Γ : Gm) : List Expr → M Bool
  | [] => mNoB
  | [a] => (rec Γ a).2
  | a :: r => mOrT (rec Γ a).2 (cOrsT rec Γ r)
/-- list(o.values()) -/
structure ValsP where
  o : Expr
  apos : Pos
  cpos : Pos
def valsPat (x : Str) : List Expr → Option ValsP
  | [.Call (.Attribute o y apos) [] [] cpos] => if x = "list" ∧ y = "values" then some ⟨o, apos, cpos⟩ else none
  | _ => none
def cCall (G : Gs) (call : Nat → Fn) (rec : Rec) (Γ : Gm) (x : Str) (args : List Expr) (pos : Pos) : M D :=
  if glB Γ.sc x = true ∧ plainN x = true ∧ args.all noStar = true then (match G.fn x with
    | some (i, k) => mCall k (call i) (cArgs (fun e => (rec Γ e).1) args)
    | none => match G.cl x with
      | some (c, i, k) => mMake c k (call i) (cArgs (fun e => (rec Γ e).1) args)
      | none => if x ∈ G.nob then (match valsPat x args with
        | some p => if baseOk p.o = true ∧ (p.apos.endLine == p.cpos.line) = true then mUn (dVals (G.chg pos.line pos.col)) (rec Γ p.o).1 else mNo
        | none => match lenSetPat x args with
        | some a => if glB Γ.sc "set" = true ∧ ("set" : Str) ∈ G.nob ∧ noStar a = true then mUn dLenSet (rec Γ a).1 else mNo
        | none => match args with
        | [a, T] => if x = "isinstance" then cIsi G Γ (rec Γ a).1 T else cBlt (G.chg pos.line pos.col) x (cArgs (fun e => (rec Γ e).1) args)
        | [] => mNo
        | _ => cBlt (G.chg pos.line pos.col) x (cArgs (fun e => (rec Γ e).1) args)) else mNo) else mNo
def cPairs (f : Expr → M D) : List (Option Expr) → List Expr → M (List (D × D))
  | some k :: ks, v :: vs => mPair (f k) (f v) (cPairs f ks vs)
  | _, _ => mPNil
noncomputable def cVal (G : Gs) (call : Nat → Fn) (rec : Rec) (Γ : Gm) : Expr → M D
  | .Constant (.int i) _ _ => mC (.int i)
  | .Constant (.str s) _ _ => if strFine s = true then mC (.str s) else mNo
  | .Constant (.bool b) _ _ => mC (.bl b)
  | .Constant .none _ _ => mC .non
  | .Name x _ => match slotOf Γ x with
    | some i => mVar i
    | none => if glB Γ.sc x = true ∧ plainN x = true then (match G.con x with
      | some d => mC d
      | none => mNo) else mNo
  | .Tuple es _ _ => if es.all noStar = true then mTup (cArgs (fun e => (rec Γ e).1) es) else mNo
  | .List es pos => if es.all noStar = true then mLst (G.chg pos.line pos.col) (cArgs (fun e => (rec Γ e).1) es) else mNo
  | .Dict [] [] pos => fun _ st => mkD (G.chg pos.line pos.col) [] st
  | .Dict (some k :: ks) (v :: vs) pos => if ks.all (·.isSome) = true ∧ ks.length = vs.length ∧ ks.length < 15 then mDisp (G.chg pos.line pos.col) (cPairs (fun e => (rec Γ e).1) (some k :: ks) (v :: vs)) else mNo
  | .BinOp a op b pos => match replPat op a b with
    | some p => mBin (dAdd (G.chg pos.line pos.col)) (mC (.str p.s)) (mUn (dRepl p.c p.z) (rec Γ p.o).1)
    | none => cBin (G.chg pos.line pos.col) op (rec Γ a).1 (rec Γ b).1
  | .UnaryOp .Not a _ => mNotV (rec Γ a).1
  | .UnaryOp .USub a _ => mUn dNeg (rec Γ a).1
  | .BoolOp .And es _ => cAnds rec Γ es
  | .BoolOp .Or es _ => cOrs rec Γ es
  | .Compare a [op] [b] _ => match cmpF op with
    | some f => if behindInMarks op b = false then mBin f (rec Γ a).1 (rec Γ b).1 else mNo
    | none => mNo
  | .Compare a [op, op2] [b, c] _ => match cmpF op, cmpF op2 with
    | some f, some g => if lastMarks [op, op2] [b, c] = false then mChain f g (rec Γ a).1 (rec Γ b).1 (rec Γ c).1 else mNo
    | _, _ => mNo
  | .IfExp c a b _ => mIfE (rec Γ c).2 (rec Γ a).1 (rec Γ b).1
  | .Subscript a (.Slice lo hi none _) pos => mSl (G.chg pos.line pos.col) (rec Γ a).1 (cPart rec Γ lo) (cPart rec Γ hi)
  | .Subscript a (.Slice none none (some k) _) pos => mStep (G.chg pos.line pos.col) (rec Γ a).1 (mPart (rec Γ k).1)
  | .Subscript a b _ => if plainIx b = true then mBin dIx (rec Γ a).1 (rec Γ b).1 else mNo
  | .Call (.Name x _) args [] pos => cCall G call rec Γ x args pos
  | .Call (.Attribute o x apos) args [] pos => if args.all noStar = true ∧ baseOk o = true ∧ (apos.endLine == pos.line) = true ∧ args.length < 30 then (if x ∈ G.own then mMth G.mth call x (rec Γ o).1 (cArgs (fun e => (rec Γ e).1) args) else cMeth (G.chg pos.line pos.col) x (rec Γ o).1 args (cArgs (fun e => (rec Γ e).1) args)) else mNo
  | .Attribute o x _ => if baseOk o = true then mAttr G.fld x (rec Γ o).1 else mNo
  | .ListComp elt [⟨tg, iter, ifs, 0⟩] scope pos => cCompL G rec Γ elt tg iter ifs scope pos
  | _ => mNo
def mTest (a : M D) : M Bool := fun ρ st => (a ρ st).bind fun d st1 => match d with
  | .bl b => .ok b st1
  | _ => .no
noncomputable def cTst (G : Gs) (call : Nat → Fn) (rec : Rec) (Γ : Gm) (e : Expr) : M Bool := match e with
  | .UnaryOp .Not a _ => mNotT (rec Γ a).2
  | .BoolOp .And es _ => cAndsT rec Γ es
  | .BoolOp .Or es _ => cOrsT rec Γ es
  | .Compare a [op] [b] pos => mTest (cVal G call rec Γ (.Compare a [op] [b] pos))
  | .Compare a [op, op2] [b, c] pos => mTest (cVal G call rec Γ (.Compare a [op, op2] [b, c] pos))
  | e => if plainT e = true then mTru (cVal G call rec Γ e) else mNoB
noncomputable def cET (G : Gs) (call : Nat → Fn) : Nat → Rec
  | 0 => fun _ _ => (mNo, mNoB)
  | n + 1 => fun Γ e => (cVal G call (cET G call n) Γ e, cTst G call (cET G call n) Γ e)
end Mi
/-! Mi13: the functions of data are kept by the text: expressions. -/
namespace Mi
open PySem L2

/-- an own exception class over ValueError -/
structure XcOk (C : Cf) (x : Str) (c : Nat) : Prop where
  mg : C.mg x = some (.ref (C.xcl c))
  ex : PySem.W.excIn C.K (C.xcl c) [.type "ValueError", .type "Exception", .type "BaseException", .type "object"] "ValueError.__new__" = true
  kp : PySem.W.keepIn C.K (.ref (C.xcl c)) = true
  sb : PySem.W.subIn C.K (.ref (C.xcl c)) (.type "BaseException") = some true
  ty : PySem.W.typeIn C.K (.ref (C.xcl c)) = some (.type "type")
structure GOk (C : Cf) (G : Gs) (call : Nat → Fn) (k : Nat) : Prop where
  con : ∀ x d, G.con x = some d → ∃ u v, C.mg x = some u ∧ RelV v u ∧ ∀ n μ H, Dat C.K n μ H v d
  fn : ∀ x i m, G.fn x = some (i, m) → ∃ f fd ps, C.mg x = some (.ref f) ∧ PySem.W.keepIn C.K (.ref f) = true ∧ Binds C.K fd ps [] ∧ ps.length = m ∧ FnOk C.P C.w C.K C.mg C.base (L2.CX C.P C.w) k f fd ps (SpOf C m (call i))
  nob : ∀ x, x ∈ G.nob → C.mg x = none
  cls : ClsOk C G.fld
  mth : MthOk C G.mth call k
  cl : ∀ x c i n, G.cl x = some (c, i, n) → C.mg x = some (.ref (C.cls c)) ∧ C8.InsC C.K (C.cls c) ∧ ∃ (f : Addr) (fd : FuncData) (ps : List Str) (j : Nat), j + 1 ≤ k ∧ Mk C.K (C.cls c) f ∧ Binds C.K fd ps [] ∧ FnOk C.P C.w C.K C.mg C.base (L2.CX C.P C.w) j f fd ps (SpOf C (n + 1) (call i))
  xc : ∀ x c, G.xc x = some c → XcOk C x c
  xs : ∀ i j b, G.xs i j = some b → PySem.W.exmOne C.K (.ref (C.xcl i)) (.ref (C.xcl j)) = some b
/-- what is to be shown of a way to read -/
def RecOk (C : Cf) (G : Gs) (call : Nat → Fn) (k : Nat) (rec : Rec) : Prop := ∀ (Γ : Gm) (X : Cx) (W : WX) (e : Expr), Gd C k X W → Fits X Γ → PE X e (TD C W (rec Γ e).1) ∧ PT X e (TDT C W (rec Γ e).2)
section
variable {C : Cf} {G : Gs} {call : Nat → Fn} {k : Nat} {rec : Rec} {Γ : Gm} {X : Cx} {W : WX}
theorem Gd.u65 (g : Gd C k X W) : X.A.units + 65 < cLine := by have := g.room.un; omega
theorem Gd.u64 (g : Gd C k X W) : X.A.units + 64 < cLine := by have := g.room.un; omega
theorem pa_noL {es : List Expr} : PA X es (TDA C W mNoL) := ⟨fun pos pins s σ H Q I q => by
  obtain ⟨_, _, _, _, _, h⟩ := q
  exact h.elim⟩
theorem star_cons {e : Expr} {es : List Expr} {env : Env} (h : noStar e = true) : starEach (e :: es) env = (false, eval e env) :: starEach es env := by
  cases e <;> first | rfl | cases h
theorem star_any {pos : Pos} {env : Env} : ∀ {es : List Expr}, es.all noStar = true → (backTo pos (starEach es env)).any (·.1) = false
  | [], _ => rfl
  | e :: r, h => by
    rw [List.all_cons, Bool.and_eq_true] at h
    rw [star_cons h.1]
    show (false || (backTo pos (starEach r env)).any (·.1)) = false
    rw [star_any h.2]; rfl
theorem star_all {pos : Pos} {env : Env} : ∀ {es : List Expr}, es.all noStar = true → (backTo pos (starEach es env)).all (fun x => !x.1) = true
  | [], _ => rfl
  | e :: r, h => by
    rw [List.all_cons, Bool.and_eq_true] at h
    rw [star_cons h.1]
    show (true && (backTo pos (starEach r env)).all (fun x => !x.1)) = true
    rw [star_all h.2]; rfl
theorem gl_of (f : Fits X Γ) {x : Str} (h : glB Γ.sc x = true) : L2.Gl X x := by
  unfold glB at h
  show X.env.scope.names.lookup x = _
  rw [f.sc]
  split at h
  · assumption
  · cases h
theorem plain_debug {x : Str} (h : plainN x = true) : (x == ("__debug__" : Str)) = false := by
  unfold plainN at h
  simp only [Bool.and_eq_true, Bool.not_eq_true'] at h
  exact h.1.1
theorem plain_cd {x : Str} (h : plainN x = true) : (x == ("__classdict__" : Str)) = false := by
  unfold plainN at h
  simp only [Bool.and_eq_true, Bool.not_eq_true'] at h
  exact h.1.2
theorem vis_of (f : Fits X Γ) {x : Str} (h : visB Γ.sc x = true) : Vis X.env.scope x := by
  unfold visB at h
  unfold Vis
  rw [f.sc]
  split at h
  · exact .inl (by assumption)
  · exact .inr (.inl (by assumption))
  · exact .inr (.inr (by assumption))
  · cases h
theorem pa_args (ih : RecOk C G call k rec) (g : Gd C k X W) (f : Fits X Γ) : ∀ {es : List Expr}, es.all noStar = true → PA X es (TDA C W (cArgs (fun e => (rec Γ e).1) es))
  | [], _ => pa_nilD
  | e :: r, h => by
    rw [List.all_cons, Bool.and_eq_true] at h
    exact pa_consD (ih Γ X W e g f).1 (pa_args ih g f h.2) (star_cons h.1)
theorem pe_bin (g : Gd C k X W) {m : Bool} {op : Operator} {a b : Expr} {pos : Pos} {ma mb : M D} (ha : PE X a (TD C W ma)) (hb : PE X b (TD C W mb)) : PE X (.BinOp a op b pos) (TD C W (cBin m op ma mb)) := by
  cases op with
  | Add => exact pe_opD (snd_add g.K m) ha hb
  | Sub => exact pe_opD snd_sub ha hb
  | Mult => exact pe_opD (snd_mul g.K m) ha hb
  | FloorDiv => exact pe_opD snd_div ha hb
  | Mod => exact pe_opD snd_mod ha hb
  | Pow => exact pe_opD snd_pow ha hb
  | BitAnd => exact pe_opD snd_and ha hb
  | RShift => exact pe_opD snd_shr ha hb
  | _ => exact pe_no
theorem cmp_snd (g : Gd C k X W) {op : CmpOp} {f : D → D → Store → O D} (h : cmpF op = some f) : Snd2 C (fun x y H Q => ∃ r, OpR X (compareOp op) r ∧ r x y H Q) f := by
  cases op with
  | Eq => cases h; exact snd_eq g.K g.u64
  | NotEq => cases h; exact snd_ne g.K g.u64
  | Lt => cases h; exact snd_lt
  | LtE => cases h; exact snd_le
  | Gt => cases h; exact snd_gt
  | GtE => cases h; exact snd_ge
  | Is => cases h; exact snd_is
  | IsNot => cases h; exact snd_isnot
  | In => cases h; exact snd_in g.K g.u65 false
  | NotIn => cases h; exact snd_in g.K g.u65 true
theorem pe_ands (ih : RecOk C G call k rec) (g : Gd C k X W) (f : Fits X Γ) {pos : Pos} : ∀ {es : List Expr}, PE X (.BoolOp .And es pos) (TD C W (cAnds rec Γ es))
  | [] => pe_no
  | [a] => pe_one (ih Γ X W a g f).1
  | a :: b :: r => (pe_andT (ih Γ X W a g f).1 (pe_ands ih g f (es := b :: r))).imp fun _ _ _ h => td_andV g.K h
theorem pe_ors (ih : RecOk C G call k rec) (g : Gd C k X W) (f : Fits X Γ) {pos : Pos} : ∀ {es : List Expr}, PE X (.BoolOp .Or es pos) (TD C W (cOrs rec Γ es))
  | [] => pe_no
  | [a] => pe_one (ih Γ X W a g f).1
  | a :: b :: r => (pe_orT (ih Γ X W a g f).1 (pe_ors ih g f (es := b :: r))).imp fun _ _ _ h => td_orV g.K h
theorem pw_noB {e : Expr} : PW X e (TDT C W mNoB) := ⟨fun whole pins s σ H Q I q => by
  obtain ⟨_, _, _, _, _, h⟩ := q
  exact h.elim⟩
theorem pw_ands (ih : RecOk C G call k rec) (g : Gd C k X W) (f : Fits X Γ) {pos : Pos} : ∀ {es : List Expr}, PW X (.BoolOp .And es pos) (TDT C W (cAndsT rec Γ es))
  | [] => pw_noB
  | [a] => pw_and1 (ih Γ X W a g f).2
  | a :: b :: r => (pw_and (ih Γ X W a g f).2 (pw_ands ih g f (es := b :: r))).imp fun _ _ _ h => td_and h
theorem pw_ors (ih : RecOk C G call k rec) (g : Gd C k X W) (f : Fits X Γ) {pos : Pos} : ∀ {es : List Expr}, PW X (.BoolOp .Or es pos) (TDT C W (cOrsT rec Γ es))
  | [] => pw_noB
  | [a] => pw_or1 (ih Γ X W a g f).2
  | a :: b :: r => (pw_or (ih Γ X W a g f).2 (pw_ors ih g f (es := b :: r))).imp fun _ _ _ h => td_or h
theorem plainIx_of {b : Expr} (h : plainIx b = true) : PlainIx b := by
  intro o i
  cases b <;> first | rfl | cases h
theorem base_of {o : Expr} {x : Str} {env : Env} (h : baseOk o = true) : attributeBase o x env (eval o env) = eval o env := by
  cases o with
  | Call fn args kw pos =>
    cases fn with
    | Name id p =>
      cases args with
      | nil =>
        cases kw with
        | nil => cases h
        | cons _ _ => rfl
      | cons _ _ => rfl
    | _ => rfl
  | _ => rfl
theorem plainT_of {e : Expr} {env : Env} (h : plainT e = true) : ∀ whole, isTrue e env whole = (do let v ← whole; standAt e.pos; holding [v] (truthy v)) := by
  intro whole
  cases e with
  | UnaryOp op a pos => cases op <;> first | rfl | cases h
  | BoolOp _ _ _ => cases h
  | IfExp _ _ _ _ => cases h
  | Compare _ _ _ _ => cases h
  | _ => rfl
/-! ### isinstance -/
theorem kits : ∀ t ∈ ["NoneType", "bool", "int", "str", "tuple", "list", "dict"], ∀ T ∈ ["int", "bool", "str", "list", "tuple", "dict"], kitB t T = some (subT t T) := by decide +kernel
theorem tyOf_ok {μ : Mu} {st : Store} {H : Hp} (R : C.Rel μ st H) {v : V} {d : D} {t : String} (h : Dat C.K st.length μ H v d) (e : tyOfD d st = some t) : TyX C.K H v (.type t) ∧ t ∈ ["NoneType", "bool", "int", "str", "tuple", "list", "dict"] := by
  cases h with
  | non => cases e; exact ⟨.base .non, by decide⟩
  | bl b => cases e; exact ⟨.base (.bl b), by decide⟩
  | int i => cases e; exact ⟨.base (.int i), by decide⟩
  | str hl ok => cases e; exact ⟨.base (.str _), by decide⟩
  | tup h hl hs =>
    cases e
    refine ⟨?_, by decide⟩
    rcases h with (h | ⟨o, h⟩) | ⟨o, its, n, hk, hc, _⟩
    · exact .base (.tup h)
    · exact .fTuple h
    · exact .kTuple hk hc
  | lst h nl hl hs => cases e; exact ⟨.base (.lst h), by decide⟩
  | frz h hl hs =>
    cases e
    refine ⟨?_, by decide⟩
    rcases h with ⟨⟨o, h⟩, _⟩ | ⟨o, its, n, hk, hc, _⟩
    · exact .base (.frz h)
    · exact .kList hk hc
  | dct h nl hl hs => cases e; exact ⟨.base (.dK h), by decide⟩
  | @ref i hi =>
    have e' : (match st[i]? with | some (.lst _) => some "list" | some (.dct _) => some "dict" | _ => none) = some t := e
    cases q : st[i]? with
    | none => rw [q] at e'; cases e'
    | some o =>
      rw [q] at e'
      have O := R.obj i o q
      cases o with
      | lst xs => cases e'; obtain ⟨vs, h1, _⟩ := O; exact ⟨.base (.lst h1), by decide⟩
      | dct xs => cases e'; obtain ⟨vs, h1, _⟩ := O; exact ⟨.base (.dK h1), by decide⟩
      | ins _ _ => cases e'
      | lck _ => cases e'
theorem tyName_ok {x : Str} {t : String} (h : tyName x = some t) : bootBuiltins x = some (.type t) ∧ x ≠ "__name__" ∧ (x == ("__debug__" : Str)) = false ∧ t ∈ ["int", "bool", "str", "list", "tuple", "dict"] := by
  unfold tyName at h
  split at h
  · rename_i e; cases h; subst e; exact ⟨PyProof.Rows.boot_int, by decide +kernel, by decide +kernel, by decide⟩
  split at h
  · rename_i e; cases h; subst e; exact ⟨PyProof.Rows.boot_bool, by decide +kernel, by decide +kernel, by decide⟩
  split at h
  · rename_i e; cases h; subst e; exact ⟨PyProof.Rows.boot_str, by decide +kernel, by decide +kernel, by decide⟩
  split at h
  · rename_i e; cases h; subst e; exact ⟨PyProof.Rows.boot_list, by decide +kernel, by decide +kernel, by decide⟩
  split at h
  · rename_i e; cases h; subst e; exact ⟨PyProof.Rows.boot_tuple, by decide +kernel, by decide +kernel, by decide⟩
  split at h
  · rename_i e; cases h; subst e; exact ⟨PyProof.Rows.boot_dict, by decide +kernel, by decide +kernel, by decide⟩
  · cases h
theorem pe_isi (g : Gd C k X W) (f : Fits X Γ) (go : GOk C G call k) {a T : Expr} {p pos : Pos} {ma : M D} (ha : PE X a (TD C W ma)) (hg : L2.Gl X "isinstance") (hm : X.mg "isinstance" = none) (hs : noStar a = true) :
    PE X (.Call (.Name "isinstance" p) [a, T] [] pos) (TD C W (cIsi G Γ ma T)) := by
  unfold cIsi
  split
  · rename_i T _
    split
    · rename_i t ht
      obtain ⟨h1, h2, h3, h4⟩ := tyName_ok ht
      split
      · rename_i hc
        have hb : ∀ q, PE X (.Name T q) (tC (.ty t)) := fun q => pe_bltn (gl_of f hc.1) (by rw [g.mg]; exact go.nob T hc.2) h1 rfl h2 h3
        refine (pe_callB call_isi hg hm PyProof.Rows.boot_isinstance (pa_cons ha (pa_cons (hb _) pa_nil rfl) (star_cons hs)) (by decide +kernel) (by decide +kernel) (star_cons hs) rfl).imp fun σ H Q h => ?_
        obtain ⟨μ, ρ, st, R, E, h⟩ := h
        refine ⟨μ, ρ, st, R, E, (Post.bind (R := Dat) h).imp fun v H1 ⟨d, st1, μ1, _, e1, R1, d1, h1'⟩ => ?_⟩
        cases q : tyOfD d st1 with
        | none => simp only [q] at h1'; exact False.elim h1'
        | some t' =>
          simp only [q] at h1'
          obtain ⟨ty, hm'⟩ := tyOf_ok R1 d1 q
          refine ⟨v, .ty t, .type t', .type t, subT t' t, rfl, .ty t, by rw [g.K]; exact ty, kit_ty (kits t' hm' t h4), ?_⟩
          have := Post.now R1 h1' (.bl _)
          simpa using this
      · exact pe_no
    · split
      · rename_i c i n hcl
        obtain ⟨h1, h2, _⟩ := go.cl T c i n hcl
        split
        · rename_i hc
          have hb : ∀ q, PE X (.Name T q) (tC (.ref (C.cls c))) := fun q => pe_glob (gl_of f hc.1) (by rw [g.mg]; exact h1) rfl (plain_debug hc.2)
          refine (pe_callB (C8.call_isC (C := C.cls c) (by rw [g.K]; exact h2)) hg hm PyProof.Rows.boot_isinstance (pa_cons ha (pa_cons (hb _) pa_nil rfl) (star_cons hs)) (by decide +kernel) (by decide +kernel) (star_cons hs) rfl).imp fun σ H Q h => ?_
          obtain ⟨μ, ρ, st, R, E, h⟩ := h
          refine ⟨μ, ρ, st, R, E, (Post.bind (R := Dat) h).imp fun v H1 ⟨d, st1, μ1, _, e1, R1, d1, h1'⟩ => ?_⟩
          cases q : insAt st1 d with
          | none => simp only [q] at h1'; exact False.elim h1'
          | some cf =>
            obtain ⟨c', fs⟩ := cf
            simp only [q] at h1'
            obtain ⟨j, dx, vs, rfl, hi, _, rfl, g1, g2, _⟩ := insAt_ok R1 d1 q
            by_cases hcc : c' = c
            · subst hcc
              rw [if_pos rfl] at h1'
              exact ⟨_, dx, vs, rfl, g1, Post.now R1 h1' (.bl _)⟩
            · rw [if_neg hcc] at h1'; exact False.elim h1'
        · exact pe_no
      · exact pe_no
  · rename_i T _ T2 _ _ _
    split
    · rename_i t t2 ht ht2
      obtain ⟨h1, h2, h3, h4⟩ := tyName_ok ht
      obtain ⟨i1, i2, i3, i4⟩ := tyName_ok ht2
      split
      · rename_i hc
        have hb : ∀ q, PE X (.Name T q) (tC (.ty t)) := fun q => pe_bltn (gl_of f hc.1) (by rw [g.mg]; exact go.nob T hc.2.1) h1 rfl h2 h3
        have hb2 : ∀ q, PE X (.Name T2 q) (tC (.ty t2)) := fun q => pe_bltn (gl_of f hc.2.2.1) (by rw [g.mg]; exact go.nob T2 hc.2.2.2) i1 rfl i2 i3
        refine (pe_callB call_isiT hg hm PyProof.Rows.boot_isinstance (pa_cons ha (pa_cons (pe_tup (pa_cons (hb _) (pa_cons (hb2 _) pa_nil rfl) rfl)) pa_nil rfl) (star_cons hs)) (by decide +kernel) (by decide +kernel) (star_cons hs) rfl).imp fun σ H Q h => ?_
        obtain ⟨μ, ρ, st, R, E, h⟩ := h
        refine ⟨μ, ρ, st, R, E, (Post.bind (R := Dat) h).imp fun v H1 ⟨d, st1, μ1, _, e1, R1, d1, h1'⟩ => ?_⟩
        cases q : tyOfD d st1 with
        | none => simp only [q] at h1'; exact False.elim h1'
        | some t' =>
          simp only [q] at h1'
          refine ⟨by show 2 ≤ sizeLine; decide, fun tp htp => ?_⟩
          obtain ⟨E2, nl⟩ := R1.fresh (o := .tup [.ty t, .ty t2]) htp
          have R2 := R1.upd (o := .tup [.ty t, .ty t2]) htp
          obtain ⟨ty, hm'⟩ := tyOf_ok R2 (d1.ext E2) q
          refine ⟨v, tp, [.ty t, .ty t2], .type t', [.type t, .type t2], subT t' t || subT t' t2, rfl, upd_same, .cons (.ty t) (.cons (.ty t2) .nil), by rw [g.K]; exact ty, ?_, ?_⟩
          · refine kitAny_cons (kit_ty (kits t' hm' t h4)) (fun e1 => ?_) (fun e1 => by rw [e1]; rfl)
            rw [e1, Bool.false_or]
            refine kitAny_cons (kit_ty (kits t' hm' t2 i4)) (fun e2 => ?_) (fun e2 => e2)
            rw [e2]; rfl
          · have := h1' (.bl ([t, t2].any (subT t'))) μ1 _ E2 R2 (.bl _)
            simpa using this
      · exact pe_no
    · exact pe_no
  · exact pe_no
end
end Mi
/-! Mi14: .. calls, comprehensions, all expressions. -/
namespace Mi
open PySem L2

section
variable {C : Cf} {G : Gs} {call : Nat → Fn} {k : Nat} {rec : Rec} {Γ : Gm} {X : Cx} {W : WX}
theorem ofString_ok (s : String) : PyData.strOk (Str.ofString s) = true := by
  have e : (Str.ofString s).cps.toList = s.toList.map Char.toNat := PyProof.Rows.signs_ofString s
  unfold PyData.strOk
  rw [← Array.all_toList, e, List.all_eq_true]
  intro c hc
  obtain ⟨ch, _, rfl⟩ := List.mem_map.mp hc
  have h1 := ch.valid
  have h2 : ch.toNat < 0x110000 := by
    show ch.val.toNat < _
    rcases h1 with h1 | ⟨_, h1⟩
    · exact Nat.lt_trans h1 (by decide)
    · exact h1
  exact decide_eq_true h2
theorem snd_str : SndL C (fun xs H Q => ∃ r, CallR X (.type "str") r ∧ r xs H Q) dStr := by
  intro μ st H xs ds W σ Q R hd h
  cases hd with
  | nil => exact False.elim h
  | @cons v vs d ds h1 h2 =>
    cases h2 with
    | cons _ _ => cases d <;> exact False.elim h
    | nil =>
      cases h1 with
      | int i =>
        have h' : Post C Dat W σ Q st.length μ H (if 0 ≤ i ∧ i < 1000000000 then .ok (.str (Str.ofString (toString i))) st else .no) := h
        split at h'
        · rename_i hc
          have hl : i.natAbs.log2 < 1920 := by
            have : i.natAbs < 2 ^ 30 := by omega
            by_cases h0 : i.natAbs = 0
            · rw [h0]; decide
            · have := (Nat.log2_lt h0).mpr this
              omega
          exact ⟨_, call_str_int, i, rfl, hl, Post.now R h' (.str (PySem.int_text_fits hl) (ofString_ok _))⟩
        · exact False.elim h'
      | _ => exact False.elim h
theorem pe_bltD {x : Str} {id : String} {p pos : Pos} {e : Expr} {es : List Expr} {f : List D → Store → O D} {ma : M (List D)} (hf : SndL C (fun xs H Q => ∃ r, CallR X (.builtin id) r ∧ r xs H Q) f) (hg : L2.Gl X x) (hm : X.mg x = none) (hv : bootBuiltins x = some (.builtin id)) (hn : x ≠ "__name__") (hd : (x == ("__debug__" : Str)) = false)
    (ha : PA X (e :: es) (TDA C W ma)) (hs : (e :: es).all noStar = true) : PE X (.Call (.Name x p) (e :: es) [] pos) (TD C W (mApp f ma)) := by
  rw [List.all_cons, Bool.and_eq_true] at hs
  exact (pe_callB CallR.any hg hm hv ha hn hd (star_cons hs.1) (star_any hs.2)).imp fun _ _ _ h => td_app hf h
theorem pe_tyD {x : Str} {T : String} {p pos : Pos} {e : Expr} {es : List Expr} {f : List D → Store → O D} {ma : M (List D)} (hf : SndL C (fun xs H Q => ∃ r, CallR X (.type T) r ∧ r xs H Q) f) (hg : L2.Gl X x) (hm : X.mg x = none) (hv : bootBuiltins x = some (.type T)) (hn : x ≠ "__name__") (hd : (x == ("__debug__" : Str)) = false)
    (ha : PA X (e :: es) (TDA C W ma)) (hs : (e :: es).all noStar = true) : PE X (.Call (.Name x p) (e :: es) [] pos) (TD C W (mApp f ma)) := by
  rw [List.all_cons, Bool.and_eq_true] at hs
  exact (pe_callTy CallR.any hg hm hv ha hn hd (star_cons hs.1) (star_any hs.2)).imp fun _ _ _ h => td_app hf h
theorem pe_blt (g : Gd C k X W) {m : Bool} {x : Str} {p pos : Pos} {e : Expr} {es : List Expr} {ma : M (List D)} (hg : L2.Gl X x) (hm : X.mg x = none) (ha : PA X (e :: es) (TDA C W ma)) (hs : (e :: es).all noStar = true) : PE X (.Call (.Name x p) (e :: es) [] pos) (TD C W (cBlt m x ma)) := by
  unfold cBlt
  split
  · rename_i q; subst q; exact pe_bltD (snd_len g.K) hg hm PySem.boot_len (by decide +kernel) (by decide +kernel) ha hs
  split
  · rename_i q; subst q; exact pe_tyD (snd_list g.K g.calm m) hg hm PyProof.Rows.boot_list (by decide +kernel) (by decide +kernel) ha hs
  split
  · rename_i q; subst q; exact pe_tyD (snd_tuple g.K) hg hm PyProof.Rows.boot_tuple (by decide +kernel) (by decide +kernel) ha hs
  split
  · rename_i q; subst q; exact pe_tyD snd_int hg hm PyProof.Rows.boot_int (by decide +kernel) (by decide +kernel) ha hs
  split
  · rename_i q; subst q; exact pe_tyD snd_str hg hm PyProof.Rows.boot_str (by decide +kernel) (by decide +kernel) ha hs
  split
  · rename_i q; subst q; exact pe_bltD (snd_sum g.K g.calm) hg hm (by decide +kernel) (by decide +kernel) (by decide +kernel) ha hs
  split
  · rename_i q; subst q; exact pe_bltD (snd_all g.K g.calm) hg hm (by decide +kernel) (by decide +kernel) (by decide +kernel) ha hs
  split
  · rename_i q; subst q; exact pe_bltD (snd_any g.K g.calm) hg hm (by decide +kernel) (by decide +kernel) (by decide +kernel) ha hs
  split
  · rename_i q; subst q; exact pe_bltD (snd_sort g.K m) hg hm PyProof.Rows.boot_sorted (by decide +kernel) (by decide +kernel) ha hs
  split
  · rename_i q; subst q; exact pe_tyD (snd_dict g.K g.calm m) hg hm (by decide +kernel) (by decide +kernel) (by decide +kernel) ha hs
  · exact pe_no
/-- a def without parameters -/
theorem pe_callSD0 {CX : CXT} {f : Addr} {fd : FuncData} {ps : List Str} {sp : Sp} {dvs : List V} {ds : List Value} {E : L2.St → XK} {x : Str} {p pos : Pos} {j : Nat} (F : FnOk X.prog X.w X.K X.mg X.base CX j f fd ps sp) (hr : Room j X.A) (hg : L2.Gl X x) (hm : X.mg x = some (.ref f)) (hk : PySem.W.keepIn X.K (.ref f) = true) (hb : Binds X.K fd ps ds) (hd : Vals dvs ds) (hx : ∀ σ, PassesAt CX X σ (E σ))
    (hdb : (x == ("__debug__" : Str)) = false) : PE X (.Call (.Name x p) [] [] pos) (tCallSD sp dvs E tNil) := by
  refine ⟨fun pins s σ H Q I h => ?_⟩
  refine wpAny_Call_Name_kw (ld_glob I hg hm ?_ hdb)
  exact PySem.W.callWith_K0 I.kIn hk (run_fnSD (us := []) (vs := []) F hr hb hd (hx σ) I .nil h)
theorem pe_fn (g : Gd C k X W) (go : GOk C G call k) {x : Str} {i m : Nat} {p pos : Pos} {es : List Expr} {ma : M (List D)} (hf : G.fn x = some (i, m)) (hg : L2.Gl X x) (hd : (x == ("__debug__" : Str)) = false) (ha : PA X es (TDA C W ma)) (hs : es.all noStar = true) (hn : es = [] → ma = mNil) :
    PE X (.Call (.Name x p) es [] pos) (TD C W (mCall m (call i) ma)) := by
  obtain ⟨f, fd, ps, h1, h2, h3, h4, h5⟩ := go.fn x i m hf
  have F : FnOk X.prog X.w X.K X.mg X.base (L2.CX X.prog X.w) k f fd ps (SpOf C m (call i)) := by
    rw [g.P, g.w, g.K, g.mg, g.base]; exact h5
  have pa : ∀ σ, PassesAt (L2.CX X.prog X.w) X σ (WE W σ) := fun σ => passAt g.tk σ
  cases es with
  | nil =>
    have := hn rfl
    subst this
    refine (pe_callSD0 F g.room hg (by rw [g.mg]; exact h1) (by rw [g.K]; exact h2) (by rw [g.K]; exact h3) .nil pa hd).imp fun σ H Q h => ?_
    have h := td_call h
    obtain ⟨μ, ρ, st, R, E, h⟩ := h
    exact h [] μ H Ext.refl R .nil
  | cons e es =>
    rw [List.all_cons, Bool.and_eq_true] at hs
    exact (pe_callSD F g.room hg (by rw [g.mg]; exact h1) (by rw [g.K]; exact h2) (by rw [g.K]; exact h3) .nil pa ha hd (star_cons hs.1) (star_any hs.2)).imp fun _ _ _ h => td_call h
theorem pe_mk (g : Gd C k X W) (go : GOk C G call k) {x : Str} {c i m : Nat} {p pos : Pos} {es : List Expr} {ma : M (List D)} (hf : G.cl x = some (c, i, m)) (hg : L2.Gl X x) (hd : (x == ("__debug__" : Str)) = false) (ha : PA X es (TDA C W ma)) (hs : es.all noStar = true) (hn : es = [] → ma = mNil) :
    PE X (.Call (.Name x p) es [] pos) (TD C W (mMake c m (call i) ma)) := by
  obtain ⟨h1, _, f, fd, ps, j, hj, h2, h3, h5⟩ := go.cl x c i m hf
  have F : FnOk X.prog X.w X.K X.mg X.base (L2.CX X.prog X.w) j f fd ps (SpOf C (m + 1) (call i)) := by
    rw [g.P, g.w, g.K, g.mg, g.base]; exact h5
  have pa : ∀ σ, PassesAt (L2.CX X.prog X.w) X σ (WE W σ) := fun σ => passAt g.tk σ
  have hr : Room (j + 1) X.A := g.room.mono hj
  cases es with
  | nil =>
    have := hn rfl
    subst this
    exact (pe_makeD0 (by rw [g.K]; exact h2) F hr hg (by rw [g.mg]; exact h1) (by rw [g.K]; exact h3) pa hd).imp fun σ H Q h => td_make (fun σ H Q ⟨μ, ρ, st, R, E, h⟩ => h [] μ H Ext.refl R .nil) h
  | cons e es =>
    rw [List.all_cons, Bool.and_eq_true] at hs
    exact (pe_makeD (by rw [g.K]; exact h2) F hr hg (by rw [g.mg]; exact h1) (by rw [g.K]; exact h3) pa ha hd (star_cons hs.1) (star_any hs.2)).imp fun _ _ _ h => td_make (fun _ _ _ h => h) h
theorem pe_own (g : Gd C k X W) (go : GOk C G call k) {x : Str} {o : Expr} {apos pos : Pos} {es : List Expr} {mo : M D} {ma : M (List D)} (ho : PE X o (TD C W mo)) (ha : PA X es (TDA C W ma)) (hs : es.all noStar = true) (hb : baseOk o = true) (hl : (apos.endLine == pos.line) = true) (h30 : es.length < 30) (hn : es = [] → ma = mNil) :
    PE X (.Call (.Attribute o x apos) es [] pos) (TD C W (mMth G.mth call x mo ma)) := by
  have pa : ∀ σ, PassesAt (L2.CX X.prog X.w) X σ (WE W σ) := fun σ => passAt g.tk σ
  cases es with
  | nil =>
    have := hn rfl
    subst this
    exact (pe_mthD0 ho g.room pa (base_of hb) hl).imp fun σ H Q h => td_mth go.mth g (fun σ H Q ⟨μ, ρ, st, R, E, h⟩ => h [] μ H Ext.refl R .nil) h
  | cons e es =>
    have hs' := hs
    rw [List.all_cons, Bool.and_eq_true] at hs'
    exact (pe_mthD ho g.room pa ha (base_of hb) (by rw [star_all hs, Bool.true_and]; show (true && decide ((e :: es).length + 0 + 0 < 30)) = true; rw [decide_eq_true (by omega)]; rfl) hl (star_cons hs'.1) (star_any hs'.2)).imp fun _ _ _ h => td_mth go.mth g (fun _ _ _ h => h) h
theorem pe_cCall (ih : RecOk C G call k rec) (g : Gd C k X W) (f : Fits X Γ) (go : GOk C G call k) {x : Str} {p pos : Pos} {args : List Expr} : PE X (.Call (.Name x p) args [] pos) (TD C W (cCall G call rec Γ x args pos)) := by
  unfold cCall
  split
  · rename_i hc
    have hg := gl_of f hc.1
    have pa := pa_args ih g f hc.2.2
    split
    · rename_i i m hf
      exact pe_fn g go hf hg (plain_debug hc.2.1) pa hc.2.2 (fun e => by subst e; rfl)
    · split
      · rename_i c i m hf
        exact pe_mk g go hf hg (plain_debug hc.2.1) pa hc.2.2 (fun e => by subst e; rfl)
      split
      · rename_i hn
        have hm : X.mg x = none := by rw [g.mg]; exact go.nob x hn
        split
        · rename_i vp hp
          split
          · rename_i h2
            unfold valsPat at hp
            split at hp
            · rename_i o y apos cpos
              split at hp
              · rename_i e
                obtain ⟨rfl, rfl⟩ := e
                cases hp
                exact (pe_listVals g.calm (ih Γ X W _ g f).1 hg hm PyProof.Rows.boot_list (base_of h2.1) h2.2).imp fun _ _ _ h => td_listVals h
              · cases hp
            · cases hp
          · exact pe_no
        split
        · rename_i a hp
          split
          · rename_i h2
            have h3 := h2.2.2
            have hm2 : X.mg "set" = none := by rw [g.mg]; exact go.nob _ h2.2.1
            unfold lenSetPat at hp
            split at hp
            · rename_i y p2 b q
              split at hp
              · rename_i e
                obtain ⟨rfl, rfl⟩ := e
                cases hp
                exact (pe_lenSetD g.calm hg hm (gl_of f h2.1) hm2 (ih Γ X W _ g f).1 (star_cons h3)).imp fun _ _ _ h => td_lenSet g.K h
              · cases hp
            · cases hp
          · exact pe_no
        split
        · rename_i a T _ _
          split
          · rename_i q
            subst q
            have hs := hc.2.2
            rw [List.all_cons, Bool.and_eq_true] at hs
            exact pe_isi g f go (ih Γ X W a g f).1 hg hm hs.1
          · exact pe_blt g hg hm pa hc.2.2
        · exact pe_no
        · rename_i h0
          cases args with
          | nil => exact absurd rfl h0
          | cons e es => exact pe_blt g hg hm pa hc.2.2
      · exact pe_no
  · exact pe_no
theorem pe_mt {T id : String} {x : Str} {o e : Expr} {es : List Expr} {apos cpos : Pos} {f : D → List D → Store → O D} {mo : M D} {ma : M (List D)} (hK : X.K = C.K) (pl : PlainAttrs T) (slot : Slot T x id) (hty : typeOf (.builtin id) = pure (.type "method_descriptor")) (hf : SndM C (fun x xs H Q => ∃ r, MtR X id r ∧ r x xs H Q) f)
    (ho : PE X o (TD C W mo)) (ha : PA X (e :: es) (TDA C W ma)) (hs : (e :: es).all noStar = true) (hb : baseOk o = true) (hl : (apos.endLine == cpos.line) = true) (hn : (e :: es).length < 30) : PE X (.Call (.Attribute o x apos) (e :: es) [] cpos) (TD C W (mMeth T f mo ma)) := by
  have hs' := hs
  rw [List.all_cons, Bool.and_eq_true] at hs'
  exact (pe_bm pl slot hty MtR.any ho ha (base_of hb) (by rw [star_all hs, Bool.true_and]; show (true && decide ((e :: es).length + 0 + 0 < 30)) = true; rw [decide_eq_true (by omega)]; rfl) hl (star_cons hs'.1) (star_any hs'.2)).imp fun _ _ _ h => td_meth hK hf h
theorem pe_mt0 {T id : String} {x : Str} {o : Expr} {apos cpos : Pos} {f : D → List D → Store → O D} {mo : M D} (hK : X.K = C.K) (pl : PlainAttrs T) (slot : Slot T x id) (hty : typeOf (.builtin id) = pure (.type "method_descriptor")) (hf : SndM C (fun x xs H Q => ∃ r, MtR X id r ∧ r x xs H Q) f)
    (ho : PE X o (TD C W mo)) (hb : baseOk o = true) (hl : (apos.endLine == cpos.line) = true) : PE X (.Call (.Attribute o x apos) [] [] cpos) (TD C W (mMeth T f mo mNil)) :=
  (pe_bm0 pl slot hty MtR.any ho (base_of hb) hl).imp fun _ _ _ h => td_meth0 hK hf h
theorem pe_cMeth (g : Gd C k X W) {m : Bool} {x : Str} {o : Expr} {apos cpos : Pos} {args : List Expr} {mo : M D} {ma : M (List D)} (ho : PE X o (TD C W mo)) (ha : PA X args (TDA C W ma)) (hs : args.all noStar = true) (hb : baseOk o = true) (hl : (apos.endLine == cpos.line) = true) :
    PE X (.Call (.Attribute o x apos) args [] cpos) (TD C W (cMeth m x mo args ma)) := by
  unfold cMeth
  split
  · split
    · rename_i q; subst q; exact pe_mt0 g.K PySem.F.plainAttrs_list PySem.F.slot_list_clear PySem.F.type_list_clear snd_clear ho hb hl
    · exact pe_no
  · split
    · rename_i q; subst q; exact pe_mt g.K PySem.F.plainAttrs_list PySem.F.slot_list_append PySem.F.type_list_append snd_append ho ha hs hb hl (by simp)
    split
    · rename_i q; subst q; exact pe_mt g.K PySem.F.plainAttrs_list PySem.F.slot_list_extend PySem.F.type_list_extend snd_extend ho ha hs hb hl (by simp)
    split
    · rename_i q; subst q; exact pe_mt g.K PySem.F.plainAttrs_str PySem.F.slot_str_split PySem.F.type_str_split (snd_split m) ho ha hs hb hl (by simp)
    split
    · rename_i q; subst q; exact pe_mt g.K PySem.F.plainAttrs_str PySem.F.slot_str_join PySem.F.type_str_join (snd_join g.K) ho ha hs hb hl (by simp)
    split
    · rename_i q; subst q; exact pe_mt g.K PySem.F.plainAttrs_list PySem.F.slot_list_pop PySem.F.type_list_pop snd_pop ho ha hs hb hl (by simp)
    split
    · rename_i q; subst q; exact pe_mt g.K PySem.F.plainAttrs_dict PySem.F.slot_dict_get PySem.F.type_dict_get (snd_get (by have := g.u65; omega)) ho ha hs hb hl (by simp)
    · exact pe_no
  · split
    · rename_i q; subst q; exact pe_mt g.K PySem.F.plainAttrs_dict PySem.F.slot_dict_get PySem.F.type_dict_get (snd_get (by have := g.u65; omega)) ho ha hs hb hl (by simp)
    · exact pe_no
  · exact pe_no
/-! ### comprehensions -/
theorem pi_noL {tg e : Expr} : PI X tg e (TDI C W mNoI) := ⟨fun pins s σ H Q I q => by
  obtain ⟨_, _, _, _, _, h⟩ := q
  exact h.elim⟩
theorem pi_iter0 (ih : RecOk C G call k rec) (g : Gd C k X W) (f : Fits X Γ) (go : GOk C G call k) {tg e : Expr} : PI X tg e (TDI C W (cIter0 G rec Γ tg e)) := by
  have it : PI X tg e (TDI C W (mItems (rec Γ e).1)) := pi_itemsD g.K (ih Γ X W e g f).1
  unfold cIter0
  split
  · rename_i x p args pos
    split
    · rename_i hc
      have hg := gl_of f hc.1
      have hm : X.mg x = none := by rw [g.mg]; exact go.nob x hc.2.1
      split
      · rename_i q
        subst q
        split
        · rename_i a
          have hs := hc.2.2
          simp only [List.all_cons, List.all_nil, Bool.and_true] at hs
          exact pi_rangeD1 hg hm (ih Γ X W a g f).1 (star_cons hs)
        · rename_i a b
          have hs := hc.2.2
          simp only [List.all_cons, List.all_nil, Bool.and_true, Bool.and_eq_true] at hs
          exact pi_rangeD2 hg hm (ih Γ X W a g f).1 (ih Γ X W b g f).1 (by rw [star_cons hs.1, star_cons hs.2]; rfl) (star_cons hs.2)
        · exact pi_noL
      split
      · rename_i q
        subst q
        split
        · rename_i a
          have hs := hc.2.2
          simp only [List.all_cons, List.all_nil, Bool.and_true] at hs
          split
          · rename_i ht
            cases tg with
            | Tuple elts kk tpos => exact pi_enumD g.K hg hm (ih Γ X W a g f).1 (star_cons hs)
            | _ => cases ht
          · exact pi_noL
        · exact pi_noL
      split
      · rename_i q
        subst q
        split
        · rename_i a b
          have hs := hc.2.2
          simp only [List.all_cons, List.all_nil, Bool.and_true, Bool.and_eq_true] at hs
          split
          · rename_i ht
            cases tg with
            | Tuple elts kk tpos => exact pi_zipD g.K hg hm (ih Γ X W a g f).1 (ih Γ X W b g f).1 (star_cons hs.1) (star_cons hs.2)
            | _ => cases ht
          · exact pi_noL
        · exact pi_noL
      · exact it
    · exact it
  · split
    · exact pi_noL
    · exact it
theorem pi_iter (ih : RecOk C G call k rec) (g : Gd C k X W) (f : Fits X Γ) (go : GOk C G call k) {tg e : Expr} : PI X tg e (TDI C W (cIter G rec Γ tg e)) := by
  unfold cIter
  split
  · exact pi_keysD (ih Γ X W e g f).1
  · exact pi_iter0 ih g f go
theorem loc_of (f : Fits X Γ) {x : Str} (h : locB Γ x = true) : L2.Loc X.env.scope x ∧ (X.fn x = true ∨ X.env.scope.names.lookup x = some .local) := by
  unfold locB at h
  unfold L2.Loc
  rw [f.sc]
  split at h
  · exact ⟨.inl (by assumption), .inr (by assumption)⟩
  · exact ⟨.inr (by assumption), .inl (f.fnC x h)⟩
  · cases h
theorem pg_slot (nd : X.N.Nodup) (f : Fits X Γ) {e : Expr} {i : Nat} (h : nameSlot Γ e = some i) : PG X e (gName i) ∧ ∀ env, assignEach [e] env = [(false, assign e env)] := by
  cases e with
  | Name x p =>
    have h' : (if locB Γ x = true then ixOf Γ.N x else none) = some i := h
    split at h'
    · rename_i hl
      obtain ⟨l1, l2⟩ := loc_of f hl
      exact ⟨pg_name nd (by rw [f.N]; exact ixOf_get h') l1 l2, fun _ => rfl⟩
    · cases h'
  | _ => cases h
theorem names_each (Γ : Gm) {env : Env} : ∀ {es : List Expr} {is : List Nat}, namesSlots Γ es = some is → es.length = is.length ∧ (assignEach es env).length = is.length ∧ (assignEach es env).findIdx? (·.1) = none
  | [], is, h => by cases h; exact ⟨rfl, rfl, rfl⟩
  | e :: r, is, h => by
    unfold namesSlots at h
    cases q1 : nameSlot Γ e with
    | none => simp only [q1] at h; cases h
    | some i =>
      cases q2 : namesSlots Γ r with
      | none => simp only [q1, q2] at h; cases h
      | some js =>
        simp only [q1, q2] at h
        cases h
        obtain ⟨h1, h2, h3⟩ := names_each Γ (env := env) q2
        cases e with
        | Name x p =>
          refine ⟨by rw [List.length_cons, List.length_cons, h1], ?_, ?_⟩
          · show ((false, assign (.Name x p) env) :: assignEach r env).length = _
            rw [List.length_cons, List.length_cons, h2]
          · show ((false, assign (.Name x p) env) :: assignEach r env).findIdx? (·.1) = none
            rw [List.findIdx?_cons, h3]; rfl
        | _ => cases q1
theorem pgs_slots (nd : X.N.Nodup) (f : Fits X Γ) : ∀ {es : List Expr} {is : List Nat}, namesSlots Γ es = some is → PGs X es (gNames is)
  | [], is, h => by cases h; exact pgs_nil
  | e :: r, is, h => by
    unfold namesSlots at h
    cases q1 : nameSlot Γ e with
    | none => simp only [q1] at h; cases h
    | some i =>
      cases q2 : namesSlots Γ r with
      | none => simp only [q1, q2] at h; cases h
      | some js =>
        simp only [q1, q2] at h
        cases h
        refine pgs_cons (pg_slot nd f q1).1 (pgs_slots nd f q2) ?_
        cases e with
        | Name x p => rfl
        | _ => cases q1
theorem pg_tgt (nd : X.N.Nodup) (hc : X.calm = true) (f : Fits X Γ) {e : Expr} {t : Tgt} (h : tgtOf Γ e = some t) : PG X e (gOf X.K t) := by
  cases e with
  | Name x p =>
    obtain ⟨i, h1, rfl⟩ := map_some (show (nameSlot Γ (.Name x p)).map Tgt.one = some t from h)
    exact (pg_slot nd f h1).1
  | Tuple es kk p =>
    obtain ⟨is, h1, rfl⟩ := map_some (show (namesSlots Γ es).map Tgt.many = some t from h)
    obtain ⟨_, h2, h3⟩ := names_each Γ (env := X.env) h1
    exact pg_seqT hc (pgs_slots nd f h1) h2 h3
  | _ => cases h
theorem Gd.blk (g : Gd C k X W) (s : Shared) (H : Hp) (scope : Scope) (cenv : Env) (fp : List Addr) : Gd C k (X.blk s H scope cenv fp) W0 :=
  ⟨g.P, g.w, g.K, g.mg, g.base, g.calm, g.nd, g.room, takes0, PassesOwn.never⟩
theorem Fits.blk (f : Fits X Γ) (s : Shared) (H : Hp) (scope : Scope) (cl : List (Str × Addr)) (a : Addr) (fp : List Addr) : Fits (X.blk s H scope (compEnvC scope cl a X.env) fp) (blkG Γ scope) :=
  ⟨f.N, by show relS scope X.env.scope = relS scope Γ.sc; rw [f.sc], fun x h => h⟩
theorem set_iter {iter : Expr} (h : isSet iter = false) (env : Env) : ∀ x, foldedSetIterable iter env x = pure x := by
  intro x
  cases iter <;> first | rfl | cases h
/-- the parts of a comprehension -/
theorem comp_parts (ih : RecOk C G call k rec) (g : Gd C k X W) (f : Fits X Γ) (go : GOk C G call k) {elt tg iter : Expr} {ifs : List Expr} {scope : Scope} {pos : Pos} :
    (cComp G rec Γ elt tg iter ifs scope pos = mNo) ∨ ∃ (wi : TI) (gg : TG) (tt : TT) (te : TE) (own : List (Str × Nat)), PI X tg iter wi ∧ BlkOk X.N X.env.scope scope own ∧ isSet iter = false ∧
      (∀ (s : Shared) (H : Hp) (a : Addr) (cl : List (Str × Addr)) (fp : List Addr), PG (X.blk s H scope (compEnvC scope cl a X.env) fp) tg gg) ∧
      (∀ (s : Shared) (H : Hp) (a : Addr) (cl : List (Str × Addr)) (fp : List Addr), PTs (X.blk s H scope (compEnvC scope cl a X.env) fp) ifs tt) ∧
      (∀ (s : Shared) (H : Hp) (a : Addr) (cl : List (Str × Addr)) (fp : List Addr), PE (X.blk s H scope (compEnvC scope cl a X.env) fp) elt te) ∧
      ∀ σ H Q, TD C W (cComp G rec Γ elt tg iter ifs scope pos) σ H Q → tLc wi gg tt te (own.map (·.2)) σ H Q := by
  unfold cComp
  cases ht : tgtOf (blkG Γ scope) tg with
  | none => exact .inl rfl
  | some t =>
    dsimp only
    split
    · rename_i hc
      refine .inr ⟨_, gOf X.K t, TDT C W0 (cIfs rec (blkG Γ scope) ifs), TD C W0 (rec (blkG Γ scope) elt).1, ownOf Γ.N scope, pi_iter ih g f go, ?_, hc.2.2, fun s H a cl fp => ?_, fun s H a cl fp => ?_, fun s H a cl fp => ?_, fun σ H Q h => ?_⟩
      · rw [f.N, f.sc]; exact blkOk_by hc.1
      · exact pg_tgt (g.blk s H scope _ fp).nd (g.blk s H scope _ fp).calm (f.blk s H scope cl a fp) ht
      · have g' := g.blk s H scope (compEnvC scope cl a X.env) fp
        have f' := f.blk s H scope cl a fp
        match ifs with
        | [] => exact ⟨fun pins s' σ' H' Q' I q => pts_nil.run pins s' σ' H' Q' I (by
            obtain ⟨μ, ρ, st, R, E, h⟩ := q
            exact h true μ H' Ext.refl R rfl)⟩
        | [c] => exact pts_one (ih _ _ _ c g' f').2
        | _ :: _ :: _ => exact ⟨fun pins s' σ' H' Q' I q => by
            obtain ⟨μ, ρ, st, R, E, h⟩ := q
            exact False.elim h⟩
      · exact (ih _ _ _ elt (g.blk s H scope (compEnvC scope cl a X.env) fp) (f.blk s H scope cl a fp)).1
      · refine td_lc g.K (fun i hi => ?_) h
        have := hc.2.1
        rw [List.all_eq_true] at this
        simpa using this i hi
    · exact .inl rfl
theorem pe_comp (ih : RecOk C G call k rec) (g : Gd C k X W) (f : Fits X Γ) (go : GOk C G call k) {elt tg iter : Expr} {ifs : List Expr} {scope : Scope} {pos : Pos} :
    PE X (.ListComp elt [⟨tg, iter, ifs, 0⟩] scope pos) (TD C W (cComp G rec Γ elt tg iter ifs scope pos)) := by
  rcases comp_parts ih g f go (elt := elt) (tg := tg) (iter := iter) (ifs := ifs) (scope := scope) (pos := pos) with e | ⟨wi, gg, tt, te, own, h1, h2, h3, h4, h5, h6, h7⟩
  · rw [e]; exact pe_no
  · exact (pe_lc g.calm g.nd h1 h2 h4 h5 h6 (set_iter h3 _)).imp h7
theorem pe_compL (ih : RecOk C G call k rec) (g : Gd C k X W) (f : Fits X Γ) (go : GOk C G call k) {elt tg iter : Expr} {ifs : List Expr} {scope : Scope} {pos : Pos} :
    PE X (.ListComp elt [⟨tg, iter, ifs, 0⟩] scope pos) (TD C W (cCompL G rec Γ elt tg iter ifs scope pos)) := by
  unfold cCompL
  split
  · exact (pe_lock (pe_comp ih g f go)).imp fun _ _ _ h => td_lock h
  · exact pe_comp ih g f go
/-! ### replaced texts -/
theorem replL_replC (c : Nat) (z : List Nat) : ∀ l : List Nat, StrLaws.replL [c] z l = replC c z l
  | [] => StrLaws.replL_nil
  | a :: r => by
    by_cases e : a = c
    · subst e
      rw [StrLaws.replL_hit (by simp) (by simp)]
      show z ++ StrLaws.replL [a] z r = _
      rw [replL_replC a z r]
      unfold replC
      rw [List.flatMap_cons, if_pos rfl]
    · rw [StrLaws.replL_miss (by simpa using e), replL_replC c z r]
      unfold replC
      rw [List.flatMap_cons, if_neg e]; rfl
theorem replace_C {x z : Str} {c : Nat} : Txt.replace x ⟨#[c]⟩ z = ⟨(replC c z.cps.toList x.cps.toList).toArray⟩ := by
  refine TL.ext_tl ?_
  show (Txt.replace x ⟨#[c]⟩ z).cps.toList = _
  rw [StrLaws.replace_list (by show 1 ≤ 1; decide), replL_replC]
theorem mem_replC {c : Nat} {z l : List Nat} {a : Nat} (h : a ∈ replC c z l) : a ∈ z ∨ a ∈ l := by
  unfold replC at h
  rw [List.mem_flatMap] at h
  obtain ⟨b, hb, h⟩ := h
  split at h
  · exact .inl h
  · rw [List.mem_singleton] at h
    subst h
    exact .inr hb
theorem replC_len (c : Nat) (z : List Nat) : ∀ l : List Nat, (replC c z l).length ≤ l.length + (l.length + 1) * z.length
  | [] => by simp [replC]
  | a :: r => by
    have ih := replC_len c z r
    have e : replC c z (a :: r) = (if a = c then z else [a]) ++ replC c z r := by unfold replC; rw [List.flatMap_cons]
    rw [e, List.length_append, List.length_cons]
    have h1 : (if a = c then z else [a]).length ≤ 1 + z.length := by split <;> simp
    have h2 : (r.length + 1 + 1) * z.length = (r.length + 1) * z.length + z.length := by rw [Nat.succ_mul]
    omega
theorem repl_inv {op : Operator} {a b : Expr} {p : ReplP} (h : replPat op a b = some p) : ∃ (j0 j1 j2 : Nat) (p0 p1 p2 apos pos : Pos) (y : Str), op = .Add ∧ a = .Constant (.str p.s) j0 p0 ∧ b = .Call (.Attribute p.o "replace" apos) [.Constant (.str y) j1 p1, .Constant (.str p.z) j2 p2] [] pos ∧
    y = ⟨#[p.c]⟩ ∧ (y == p.z) = false ∧ strFine p.s = true ∧ strFine p.z = true ∧ baseOk p.o = true ∧ (apos.endLine == pos.line) = true := by
  unfold replPat at h
  split at h
  · split at h
    · rename_i c e
      split at h
      · rename_i hc
        cases h
        obtain ⟨h1, h2, h3, h4, h5, h6⟩ := hc
        subst h1
        exact ⟨_, _, _, _, _, _, _, _, _, rfl, rfl, rfl, str_one e, h2, h3, h4, h5, h6⟩
      · cases h
    · cases h
  · cases h
theorem pe_repl (g : Gd C k X W) {op : Operator} {a b : Expr} {pos : Pos} {p : ReplP} {m : Bool} {mo : M D} (h : replPat op a b = some p) (ho : PE X p.o (TD C W mo)) : PE X (.BinOp a op b pos) (TD C W (mBin (dAdd m) (mC (.str p.s)) (mUn (dRepl p.c p.z) mo))) := by
  obtain ⟨j0, j1, j2, p0, p1, p2, apos, pos2, y, rfl, rfl, rfl, ey, hyz, hs, hz, hb, hl⟩ := repl_inv h
  unfold strFine at hs hz
  rw [Bool.and_eq_true, decide_eq_true_eq] at hs hz
  have hr := CwR.pet_replC (c0 := p1) (c1 := p2) (j := j1) (k := j2) ho hyz rfl (base_of hb) hl
  have key : PE X (.BinOp (.Constant (.str p.s) j0 p0) .Add (.Call (.Attribute p.o "replace" apos) [.Constant (.str y) j1 p1, .Constant (.str p.z) j2 p2] [] pos2) pos) (tOp (fun x y H Q => ∃ r, OpR X (binaryOp .Add) r ∧ r x y H Q) (tC (.str p.s)) (CwR.tReplC (TD C W mo) y p.z)) := by
    refine ⟨fun pins s σ H Q I h => ?_⟩
    refine wpAny_BinOp (Calls.Constant_str ?_)
    have h : CwR.tReplC (TD C W mo) y p.z σ H (fun yv H2 => ∃ r, OpR X (binaryOp .Add) r ∧ r (.str p.s) yv H2 Q) := h
    refine thn (hr pins _ σ H _ (by show 1 ≤ s.toks + 1; omega) (I.tok _) h) fun u s2 ⟨yv, H2, I2, r2, q2⟩ => ?_
    exact OpR.any pins s2 σ H2 (.str p.s) yv _ u Q I2 ⟨_, rfl⟩ r2 q2
  refine key.imp fun σ H Q h => ?_
  obtain ⟨μ, ρ, st, R, E, h⟩ := h
  have h : Post C Dat W σ Q st.length μ H ((mUn (dRepl p.c p.z) mo ρ st).bind fun y st2 => dAdd m (.str p.s) y st2) := h
  unfold mUn at h
  refine ⟨μ, ρ, st, R, E, ?_⟩
  cases q : mo ρ st with
  | no => rw [q] at h; exact h
  | ex x st1 => rw [q] at h; exact h
  | ok d st1 =>
    rw [q] at h
    intro v μ1 H1 e1 R1 d1
    cases d1 with
    | @str x hl1 ok1 =>
      have h : Post C Dat W σ Q st.length μ H ((if x.length + (x.length + 1) * p.z.length ≤ 16777216 then O.ok (D.str ⟨(replC p.c p.z.cps.toList x.cps.toList).toArray⟩) st1 else .no).bind fun y st2 => dAdd m (.str p.s) y st2) := h
      split at h
      · rename_i hc
        have h : Post C Dat W σ Q st.length μ H (dAdd m (.str p.s) (.str ⟨(replC p.c p.z.cps.toList x.cps.toList).toArray⟩) st1) := h
        refine ⟨x, rfl, hc, ?_⟩
        rw [ey, replace_C]
        refine snd_add g.K m μ1 st1 H1 (.str p.s) _ (.str p.s) _ W σ Q R1 (.str hs.1 hs.2) (.str ?_ (strOk_list fun c hc' => ?_)) (Post.go e1 h)
        · show (replC p.c p.z.cps.toList x.cps.toList).toArray.size ≤ sizeLine
          rw [List.size_toArray]
          have := replC_len p.c p.z.cps.toList x.cps.toList
          rw [Array.length_toList, Array.length_toList] at this
          have e : sizeLine = 16777216 := by decide
          rw [e]
          exact Nat.le_trans this hc
        · rcases mem_replC hc' with q | q
          · exact strOk_mem hz.2 q
          · exact strOk_mem ok1 q
      · exact False.elim h
    | _ => exact False.elim h
/-! ### all expressions -/
theorem po_part (ih : RecOk C G call k rec) (g : Gd C k X W) (f : Fits X Γ) {e : Option Expr} : PO X e (TDO C W (cPart rec Γ e)) := by
  cases e with
  | none => exact po_noneD
  | some e => exact po_someD (ih Γ X W e g f).1
theorem pe_sl (hK : X.K = C.K) {a : Expr} {lo hi : Option Expr} {p2 pos : Pos} {m : Bool} {ma : M D} {ml mh : M (Option Int)} (ha : PE X a (TD C W ma)) (hl : PO X lo (TDO C W ml)) (hh : PO X hi (TDO C W mh)) : PE X (.Subscript a (.Slice lo hi none p2) pos) (TD C W (mSl m ma ml mh)) :=
  (pe_slice SlR.any ha hl hh).imp fun σ H Q h => by
    obtain ⟨μ, ρ, st, R, E, h⟩ := h
    refine ⟨μ, ρ, st, R, E, (Post.bind (R := Dat) h).imp fun v H1 ⟨x, st1, μ1, _, e1, R1, d1, h1⟩ => ?_⟩
    refine ⟨μ1, ρ, st1, R1, E.ext e1, (Post.bind (R := RO) h1).imp fun l H2 ⟨l', st2, μ2, _, e2, R2, d2, h2⟩ => ?_⟩
    subst d2
    refine ⟨μ2, ρ, st2, R2, (E.ext e1).ext e2, (Post.bind (R := RO) h2).imp fun u H3 ⟨u', st3, μ3, _, e3, R3, d3, h3⟩ => ?_⟩
    subst d3
    exact snd_sl hK m R3 ((d1.ext e2).ext e3) h3
theorem pps_all (ih : RecOk C G call k rec) (g : Gd C k X W) (f : Fits X Γ) {pos : Pos} : ∀ {ks : List (Option Expr)} {vs : List Expr}, ks.all (·.isSome) = true → ks.length = vs.length → ∃ trs, PPs X pos ks vs trs ∧ ∀ (σ : L2.St) (H : Hp) (Q : List (V × V) → Hp → Prop), TDg C RP W (cPairs (fun e => (rec Γ e).1) ks vs) σ H Q → tPairs trs σ H Q
  | [], [], _, _ => ⟨[], pps_nil, fun _ _ _ h => td_pairsN h⟩
  | some e :: ks, v :: vs, h, hl => by
    rw [List.all_cons, Bool.and_eq_true] at h
    obtain ⟨trs, h1, h2⟩ := pps_all ih g f h.2 (by simpa using hl)
    exact ⟨_, pps_cons (ih Γ X W e g f).1 (ih Γ X W v g f).1 h1, fun σ H Q h => td_pairsC h2 h⟩
  | none :: _, _, h, _ => by rw [List.all_cons] at h; cases h
  | [], _ :: _, _, hl => by simp at hl
  | some _ :: _, [], _, hl => by simp at hl
theorem pe_val (ih : RecOk C G call k rec) (g : Gd C k X W) (f : Fits X Γ) (go : GOk C G call k) (e : Expr) : PE X e (TD C W (cVal G call rec Γ e)) := by
  unfold cVal
  split
  · exact pe_int.imp fun _ _ _ h => td_c (fun _ _ _ => .int _) h
  · split
    · rename_i hs
      unfold strFine at hs
      rw [Bool.and_eq_true, decide_eq_true_eq] at hs
      exact pe_str.imp fun _ _ _ h => td_c (fun _ _ _ => .str hs.1 hs.2) h
    · exact pe_no
  · exact pe_bl.imp fun _ _ _ h => td_c (fun _ _ _ => .bl _) h
  · exact pe_non.imp fun _ _ _ h => td_c (fun _ _ _ => .non) h
  · rename_i x p
    split
    · rename_i i hi
      unfold slotOf at hi
      split at hi
      · rename_i hc
        exact (pe_var (by rw [f.N]; exact ixOf_get hi) (vis_of f hc.1) (plain_debug hc.2) (plain_cd hc.2)).imp fun _ _ _ h => td_var h
      · cases hi
    · split
      · rename_i hc
        split
        · rename_i d hd
          obtain ⟨u, v, h1, h2, h3⟩ := go.con x d hd
          exact (pe_glob (gl_of f hc.1) (by rw [g.mg]; exact h1) h2 (plain_debug hc.2)).imp fun _ _ _ h => td_c h3 h
        · exact pe_no
      · exact pe_no
  · split
    · exact (pe_tup (pa_args ih g f (by assumption))).imp fun _ _ _ h => td_tup h
    · exact pe_no
  · split
    · exact (pe_lst (pa_args ih g f (by assumption))).imp fun _ _ _ h => td_lst h
    · exact pe_no
  · exact pe_dnewK.imp fun _ _ _ h => td_dnew h
  · split
    · rename_i hc
      rename_i e0 k0 ks0 v0 vs0 pos0
      obtain ⟨trs, h1, h2⟩ := pps_all (pos := pos0) (ks := some k0 :: ks0) (vs := v0 :: vs0) ih g f (by rw [List.all_cons, hc.1]; rfl) (by rw [List.length_cons, List.length_cons, hc.2.1])
      exact (pe_disp h1 (by rw [List.all_cons, hc.1]; rfl) (by rw [List.length_cons, List.length_cons, hc.2.1]) (by simp) (by rw [List.length_cons]; exact hc.2.2)).imp fun _ _ _ h => td_disp h2 h
    · exact pe_no
  · split
    · rename_i p hp
      exact pe_repl g hp (ih Γ X W _ g f).1
    · exact pe_bin g (ih Γ X W _ g f).1 (ih Γ X W _ g f).1
  · exact (pe_notT (ih Γ X W _ g f).1).imp fun _ _ _ h => td_notV g.K h
  · exact pe_unD snd_neg (ih Γ X W _ g f).1
  · exact pe_ands ih g f
  · exact pe_ors ih g f
  · split
    · rename_i hf
      split
      · exact pe_cmpD (cmp_snd g hf) (ih Γ X W _ g f).1 (ih Γ X W _ g f).1 (by assumption)
      · exact pe_no
    · exact pe_no
  · split
    · rename_i h1 h2
      split
      · exact (pe_chain OpR.any OpR.any (ih Γ X W _ g f).1 (ih Γ X W _ g f).1 (ih Γ X W _ g f).1 (by assumption)).imp fun _ _ _ h => td_chain (cmp_snd g h1) (cmp_snd g h2) h
      · exact pe_no
    · exact pe_no
  · exact pe_ifD (ih Γ X W _ g f).2 (ih Γ X W _ g f).1 (ih Γ X W _ g f).1
  · exact pe_sl g.K (ih Γ X W _ g f).1 (po_part ih g f) (po_part ih g f)
  · exact (pe_step (ih Γ X W _ g f).1 (po_someD (ih Γ X W _ g f).1)).imp fun _ _ _ h => td_step g.K h
  · split
    · exact pe_ixD (snd_ix g.K g.u65) (ih Γ X W _ g f).1 (ih Γ X W _ g f).1 (plainIx_of (by assumption))
    · exact pe_no
  · exact pe_cCall ih g f go
  · split
    · rename_i hc
      split
      · exact pe_own g go (ih Γ X W _ g f).1 (pa_args ih g f hc.1) hc.1 hc.2.1 hc.2.2.1 hc.2.2.2 (fun e => by subst e; rfl)
      · exact pe_cMeth g (ih Γ X W _ g f).1 (pa_args ih g f hc.1) hc.1 hc.2.1 hc.2.2.1
    · exact pe_no
  · split
    · exact (pe_fld (ih Γ X W _ g f).1 (base_of (by assumption))).imp fun _ _ _ h => td_attr go.cls g.K h
    · exact pe_no
  · exact pe_compL ih g f go
  · exact pe_no
theorem td_test {m : M D} {σ : L2.St} {H : Hp} {Q : Bool → Hp → Prop} {t : TE} (ht : ∀ Q', TD C W m σ H Q' → t σ H Q') (h : TDT C W (mTest m) σ H Q) : tTest t σ H Q := by
  obtain ⟨μ, ρ, st, R, E, h⟩ := h
  refine ht _ ⟨μ, ρ, st, R, E, (Post.bind (R := Dat) h).imp fun v H1 ⟨d, st1, μ1, _, e1, R1, d1, h1⟩ => ?_⟩
  cases d1 with
  | bl b => exact ⟨b, rfl, h1 b μ1 H1 Ext.refl R1 rfl⟩
  | _ => exact False.elim h1
theorem pt_tst (ih : RecOk C G call k rec) (g : Gd C k X W) (f : Fits X Γ) (go : GOk C G call k) (e : Expr) : PT X e (TDT C W (cTst G call rec Γ e)) := by
  unfold cTst
  split
  · exact (pt_not (ih Γ X W _ g f).2).imp fun _ _ _ h => td_not h
  · exact (pw_ands ih g f).pt
  · exact (pw_ors ih g f).pt
  · rename_i a op b pos
    cases hf : cmpF op with
    | none => cases op <;> cases hf
    | some fn =>
      by_cases hm : behindInMarks op b = false
      · refine (pt_cmpR OpR.any (ih Γ X W a g f).1 (ih Γ X W b g f).1 hm).imp fun σ H Q h => td_test (t := tOp _ (TD C W (rec Γ a).1) (TD C W (rec Γ b).1)) (fun Q' h' => ?_) h
        have e2 : cVal G call rec Γ (.Compare a [op] [b] pos) = mBin fn (rec Γ a).1 (rec Γ b).1 := by
          show (match cmpF op with | some f => if behindInMarks op b = false then mBin f (rec Γ a).1 (rec Γ b).1 else mNo | none => mNo) = _
          rw [hf]; dsimp only; rw [if_pos hm]
        rw [e2] at h'
        exact td_op (cmp_snd g hf) h'
      · have e2 : cVal G call rec Γ (.Compare a [op] [b] pos) = mNo := by
          show (match cmpF op with | some f => if behindInMarks op b = false then mBin f (rec Γ a).1 (rec Γ b).1 else mNo | none => mNo) = _
          rw [hf]; dsimp only; rw [if_neg hm]
        rw [e2]
        exact ⟨fun pins s σ H Q I q => by
          obtain ⟨_, _, _, _, _, h⟩ := q
          exact False.elim h⟩
  · rename_i a op op2 b c pos
    cases hf : cmpF op with
    | none => cases op <;> cases hf
    | some fn =>
      cases hf2 : cmpF op2 with
      | none => cases op2 <;> cases hf2
      | some fn2 =>
        by_cases hm : lastMarks [op, op2] [b, c] = false
        · refine (pt_chain OpR.any OpR.any (ih Γ X W a g f).1 (ih Γ X W b g f).1 (ih Γ X W c g f).1 hm).imp fun σ H Q h => td_test (t := tChain _ _ (TD C W (rec Γ a).1) (TD C W (rec Γ b).1) (TD C W (rec Γ c).1)) (fun Q' h' => ?_) h
          have e2 : cVal G call rec Γ (.Compare a [op, op2] [b, c] pos) = mChain fn fn2 (rec Γ a).1 (rec Γ b).1 (rec Γ c).1 := by
            show (match cmpF op, cmpF op2 with | some f, some g => if lastMarks [op, op2] [b, c] = false then mChain f g (rec Γ a).1 (rec Γ b).1 (rec Γ c).1 else mNo | _, _ => mNo) = _
            rw [hf, hf2]; dsimp only; rw [if_pos hm]
          rw [e2] at h'
          exact td_chain (cmp_snd g hf) (cmp_snd g hf2) h'
        · have e2 : cVal G call rec Γ (.Compare a [op, op2] [b, c] pos) = mNo := by
            show (match cmpF op, cmpF op2 with | some f, some g => if lastMarks [op, op2] [b, c] = false then mChain f g (rec Γ a).1 (rec Γ b).1 (rec Γ c).1 else mNo | _, _ => mNo) = _
            rw [hf, hf2]; dsimp only; rw [if_neg hm]
          rw [e2]
          exact ⟨fun pins s σ H Q I q => by
            obtain ⟨_, _, _, _, _, h⟩ := q
            exact False.elim h⟩
  · split
    · exact pt_truD g.K (pe_val ih g f go e) (plainT_of (by assumption))
    · exact pt_no
theorem rec_ok (go : GOk C G call k) : ∀ n : Nat, RecOk C G call k (cET G call n)
  | 0 => fun Γ X W e g f => ⟨pe_no, pt_no⟩
  | n + 1 => fun Γ X W e g f => ⟨pe_val (rec_ok go n) g f go e, pt_tst (rec_ok go n) g f go e⟩
end
end Mi
/-! Mi15: statements. -/
namespace Mi
open PySem L2

def sNo : MS := fun _ _ => .no
def isCompE : Expr → Bool
  | .ListComp _ _ _ _ => true
  | .SetComp _ _ _ _ => true
  | .DictComp _ _ _ _ _ => true
  | _ => false
/-- how many turns a while may take -/
def loopFuel : Nat := 100000
def swapB (Γ : Gm) (y : Str) (py pos : Pos) (scope : Scope) : Bool := (match Γ.sc.kind with | .function => true | _ => false) && (match Γ.sc.names.lookup y with | some .local => true | _ => false) && (py.line == pos.line) && !(scope.names.any fun (n, k) => n == y && (k == .local || k == .cell))
def cellB (Γ : Gm) (x : Str) : Bool := match Γ.sc.names.lookup x with
  | some .cell => true
  | _ => false
noncomputable def cAsg (G : Gs) (call : Nat → Fn) (rec : Rec) (Γ : Gm) (tg e : Expr) : MS := match tg with
  | .Name x p => match tgtOf Γ (.Name x p) with
    | some t => match e with
      | .ListComp elt [⟨tg', iter, ifs, 0⟩] scope pos => if swapB Γ x p pos scope = true then sAsg (cComp G rec Γ elt tg' iter ifs scope pos) t else if cellB Γ x = true then sAsg (cComp G rec Γ elt tg' iter ifs scope pos) t else sNo
      | e => if isCompE e = true then sNo else sAsg (rec Γ e).1 t
    | none => sNo
  | .Tuple ts kk p => if isTup e = true then sNo else (match tgtOf Γ (.Tuple ts kk p) with
    | some t => if isCompE e = true then sNo else sAsg (rec Γ e).1 t
    | none => sNo)
  | .Attribute o x _ => sAtr G.fld x (rec Γ e).1 (rec Γ o).1
  | .Subscript o i _ => sSto (rec Γ e).1 (rec Γ o).1 (rec Γ i).1
  | _ => sNo
noncomputable def lkS (G : Gs) (rec : Rec) (Γ : Gm) (e : Expr) (m : MS) : MS := if G.lk e.pos.line e.pos.col = true then sLock (rec Γ e).1 m else m
noncomputable def lkA (G : Gs) (rec : Rec) (Γ : Gm) (e : Expr) (m : MS) : MS := match e with
  | .ListComp _ [⟨_, iter, _, 0⟩] _ _ => lkS G rec Γ iter m
  | _ => m
def suiteOf (Γ : Gm) : List Stmt → Option MS
  | [.Return none _] => some sRetN
  | [.Pass _] => some sNil
  | [.Continue _] => some sCont
  | [.Assign [.Name y p] (.Constant (.bool b) _ _) _] => (nameSlot Γ (.Name y p)).map fun i => sAsg (mC (.bl b)) (.one i)
  | _ => none
noncomputable def cSt (G : Gs) (call : Nat → Fn) (rec : Rec) (rs : Gm → List Stmt → MS) (Γ : Gm) : Stmt → MS
  | .Assign [tg] e _ => lkA G rec Γ e (cAsg G call rec Γ tg e)
  | .Expr e _ => if isCompE e = true then sNo else sExpr (rec Γ e).1
  | .Return (some e) _ => sRet (rec Γ e).1
  | .Return none _ => sRetN
  | .If c a b _ => sIf (rec Γ c).2 (rs Γ a) (rs Γ b)
  | .For tg it b [] _ => if isSet it = true then sNo else (match tgtOf Γ tg with
    | some t => lkS G rec Γ it (sFor (cIter G rec Γ tg it) t (rs Γ b))
    | none => sNo)
  | .While c b [] _ => sWhile (rec Γ c).2 (rs Γ b) loopFuel
  | .AugAssign (.Attribute o x _) .Add e _ => sAtrAdd G.fld x (rec Γ o).1 (rec Γ e).1
  | .Pass _ => sNil
  | .Break _ => sBreak
  | .Continue _ => sCont
  | .Raise (some (.Call (.Name x _) [.Constant (.str _) _ _] [] _)) none _ => match G.xc x with
    | some c => if glB Γ.sc x = true ∧ plainN x = true then sRaise c else sNo
    | none => sNo
  | .Try body [.ExceptHandler (some (.Name x _)) none suite _] [] [] _ => match G.xc x, suiteOf Γ suite with
    | some c, some h => if glB Γ.sc x = true ∧ plainN x = true then sTry (fun i => G.xs i c) (rs Γ body) h else sNo
    | _, _ => sNo
  | _ => sNo
noncomputable def cBlk (f : Stmt → MS) : List Stmt → MS
  | [] => sNil
  | [s] => f s
  | s :: r => sSeq (f s) (cBlk f r)
/-- a block; n: how deep statements stand in one another -/
noncomputable def cSs (G : Gs) (call : Nat → Fn) (rec : Rec) : Nat → Gm → List Stmt → MS
  | 0 => fun _ _ => sNo
  | n + 1 => fun Γ l => cBlk (cSt G call rec (cSs G call rec n) Γ) l
section
variable {C : Cf} {G : Gs} {call : Nat → Fn} {k : Nat} {rec : Rec} {Γ : Gm} {X : Cx} {W : WX}
def BlkOkR (C : Cf) (k : Nat) (rs : Gm → List Stmt → MS) : Prop := ∀ (Γ : Gm) (X : Cx) (W : WX) (l : List Stmt), Gd C k X W → StF X → Fits X Γ → PSs X l (TDS C W (rs Γ l))
theorem pss_no {l : List Stmt} : PSs X l (TDS C W sNo) := ⟨fun pins s σ H Q I q => by
  obtain ⟨_, _, _, _, _, h⟩ := q
  exact h.elim⟩
theorem sw_none {e : Expr} (h : isCompE e = false) (t : Option Expr) (l : Nat) (env : Env) : swapsWith e t l env = pure false := by
  cases e <;> first | rfl | cases h
theorem sw_tuple {e : Expr} {ts : List Expr} {kk : Nat} {p : Pos} (l : Nat) (env : Env) : swapsWith e (some (.Tuple ts kk p)) l env = pure false := by
  cases e <;> rfl
theorem sw_sub {e o i : Expr} {p : Pos} (l : Nat) (env : Env) : swapsWith e (some (.Subscript o i p)) l env = pure false := by
  cases e <;> rfl
theorem sw_attr {e o : Expr} {x : Str} {p : Pos} (l : Nat) (env : Env) : swapsWith e (some (.Attribute o x p)) l env = pure false := by
  cases e <;> rfl
theorem sw_cell {x : Str} {p pos : Pos} {l : Nat} {env : Env} {elt : Expr} {gens : List Comprehension} {scope : Scope} (h : env.scope.names.lookup x = some .cell) : swapsWithSole [.Name x p] (.ListComp elt gens scope pos) l env = pure false := by
  have e : (env.kindOf x == some .local) = false := by unfold Env.kindOf; rw [h]; rfl
  show (pure (env.blockKind == .function && env.kindOf x == some .local && _ && _) : Sem Bool) = _
  rw [e, Bool.and_false]
  rfl
theorem ps_asgD (ih : RecOk C G call k rec) (g : Gd C k X W) (f : Fits X Γ) (go : GOk C G call k) {tg e : Expr} {pos : Pos} : PS X (.Assign [tg] e pos) (TDS C W (cAsg G call rec Γ tg e)) := by
  unfold cAsg
  split
  · rename_i x p
    cases ht : tgtOf Γ (.Name x p) with
    | none => exact ps_no
    | some t =>
      dsimp only
      have ht' := ht
      obtain ⟨i, hi, rfl⟩ := map_some (show (nameSlot Γ (.Name x p)).map Tgt.one = some t from ht')
      have hi' : (if locB Γ x = true then ixOf Γ.N x else none) = some i := hi
      split
      · rename_i elt tg' iter ifs scope cpos
        split
        · rename_i hsw
          rcases comp_parts ih g f go (elt := elt) (tg := tg') (iter := iter) (ifs := ifs) (scope := scope) (pos := cpos) with e | ⟨wi, gg, tt, te, own, h1, h2, h3, h4, h5, h6, h7⟩
          · rw [e]
            exact ⟨fun pins s σ H D I q => by
              obtain ⟨_, _, _, _, _, h⟩ := q
              exact False.elim h⟩
          · unfold swapB at hsw
            simp only [Bool.and_eq_true] at hsw
            obtain ⟨⟨⟨s1, s2⟩, s3⟩, s4⟩ := hsw
            have k1 : X.env.scope.kind = .function := by
              rw [f.sc]
              split at s1
              · assumption
              · cases s1
            have k2 : X.env.scope.names.lookup x = some .local := by
              rw [f.sc]
              split at s2
              · assumption
              · cases s2
            have k3 : X.N[i]? = some x := by
              rw [f.N]
              split at hi'
              · exact ixOf_get hi'
              · cases hi'
            refine (ps_setLc g.calm g.nd k3 k2 (sw_true k1 k2 s3 (by simpa using s4)) h1 h2 h4 h5 h6 (set_iter h3 _)).imp fun D σ H h => ?_
            have h := td_asg g.K h
            show tLc wi gg tt te (own.map (·.2)) σ H fun x H1 => gName i x σ H1 D.nx
            exact h7 σ H _ h
        · split
          · rename_i hcell
            have k2 : X.env.scope.names.lookup x = some .cell := by
              rw [f.sc]
              unfold cellB at hcell
              split at hcell
              · assumption
              · cases hcell
            exact (ps_asg (pe_comp ih g f go) (pg_tgt g.nd g.calm f ht) (sw_cell k2) rfl rfl).imp fun _ _ _ h => td_asg g.K h
          · exact ps_no
      · split
        · exact ps_no
        · rename_i hc
          have hc : isCompE e = false := by simpa using hc
          exact (ps_asg (ih Γ X W e g f).1 (pg_tgt g.nd g.calm f ht) (show swapsWithSole [.Name x p] e pos.line X.env = pure false from sw_none hc (some (.Name x p)) pos.line X.env) rfl rfl).imp fun _ _ _ h => td_asg g.K h
  · rename_i ts kk p
    split
    · exact ps_no
    · rename_i hT
      cases ht : tgtOf Γ (.Tuple ts kk p) with
      | none => exact ps_no
      | some t =>
        dsimp only
        split
        · exact ps_no
        · refine (ps_asg (ih Γ X W e g f).1 (pg_tgt g.nd g.calm f ht) (show swapsWithSole [.Tuple ts kk p] e pos.line X.env = pure false from sw_tuple (ts := ts) (kk := kk) (p := p) pos.line X.env) ?_ rfl).imp fun _ _ _ h => td_asg g.K h
          cases e <;> first | rfl | exact absurd rfl hT
  · rename_i o x p
    exact (ps_fld (ih Γ X W o g f).1 (ih Γ X W e g f).1 (sw_attr pos.line X.env)).imp fun _ _ _ h => td_sAtr go.cls g.K h
  · rename_i o i p
    exact (ps_dput (by have := g.u65; omega) (ih Γ X W o g f).1 (ih Γ X W i g f).1 (ih Γ X W e g f).1 (sw_sub pos.line X.env)).imp fun _ _ _ h => td_sSto h
  · exact ps_no
theorem ps_lkS {s : Stmt} {e : Expr} {m : MS} (h : PS X s (TDS C W m)) : PS X s (TDS C W (lkS G rec Γ e m)) := by
  unfold lkS
  split
  · exact (ps_lock h).imp fun _ _ _ h => td_lockS h
  · exact h
theorem ps_lkA {s : Stmt} {e : Expr} {m : MS} (h : PS X s (TDS C W m)) : PS X s (TDS C W (lkA G rec Γ e m)) := by
  unfold lkA
  split
  · exact ps_lkS h
  · exact h
theorem suite_cons {suite : List Stmt} {h : MS} (e : suiteOf Γ suite = some h) : ∃ b r, suite = b :: r := by
  cases suite with
  | nil => cases e
  | cons b r => exact ⟨b, r, rfl⟩
theorem suite_ok (hK : X.K = C.K) (nd : X.N.Nodup) (f : Fits X Γ) {suite : List Stmt} {h : MS} (e : suiteOf Γ suite = some h) : PSs X suite (TDS C W h) := by
  unfold suiteOf at e
  split at e
  · cases e; exact pss_one (ps_retN.imp fun _ _ _ h => td_retN h)
  · cases e; exact pss_one (ps_pass.imp fun _ _ _ h => td_nil h)
  · cases e; exact pss_one (ps_continue.imp fun _ _ _ h => td_cont h)
  · rename_i y p b q1 q2 pos
    obtain ⟨i, hi, rfl⟩ := map_some e
    have hb : ∀ q r, PE X (.Constant (.bool b) q r) (TD C W (mC (.bl b))) := fun q r => pe_bl.imp fun _ _ _ h => td_c (fun _ _ _ => .bl _) h
    exact pss_one ((ps_asg (hb q1 q2) (pg_slot nd f hi).1 (show swapsWithSole [.Name y p] (.Constant (.bool b) q1 q2) pos.line X.env = pure false from sw_none (e := .Constant (.bool b) q1 q2) rfl (some (.Name y p)) pos.line X.env) rfl rfl).imp fun _ _ _ h => td_asg (t := .one i) hK h)
  · cases e
theorem ps_stD (ih : RecOk C G call k rec) {rs : Gm → List Stmt → MS} (is : BlkOkR C k rs) (g : Gd C k X W) (sf : StF X) (f : Fits X Γ) (go : GOk C G call k) (s : Stmt) : PS X s (TDS C W (cSt G call rec rs Γ s)) := by
  unfold cSt
  split
  · exact ps_lkA (ps_asgD ih g f go)
  · split
    · exact ps_no
    · rename_i hc
      exact (ps_expr (ih Γ X W _ g f).1 (sw_none (by simpa using hc) _ _ _)).imp fun _ _ _ h => td_expr h
  · exact (ps_ret (ih Γ X W _ g f).1).imp fun _ _ _ h => td_ret h
  · exact ps_retN.imp fun _ _ _ h => td_retN h
  · exact (ps_if (ih Γ X W _ g f).2 (is Γ X W _ g sf f) (is Γ X W _ g sf f)).imp fun _ _ _ h => td_if h
  · split
    · exact ps_no
    · rename_i hs
      cases ht : tgtOf Γ _ with
      | none => exact ps_no
      | some t =>
        dsimp only
        exact ps_lkS ((ps_for g.own g.calm (pi_iter ih g f go) (pg_tgt g.nd g.calm f ht) (is Γ X W _ g sf f) (set_iter (by simpa using hs) _)).imp fun _ _ _ h => td_for g.K h)
  · exact (ps_while g.own (ih Γ X W _ g f).2 (is Γ X W _ g sf f)).imp fun _ _ _ h => td_while h
  · exact (ps_fldaug (ih Γ X W _ g f).1 (ih Γ X W _ g f).1 in_add).imp fun _ _ _ h => td_sAtrAdd go.cls g.K h
  · exact ps_pass.imp fun _ _ _ h => td_nil h
  · exact ps_break.imp fun _ _ _ h => td_break h
  · exact ps_continue.imp fun _ _ _ h => td_cont h
  · split
    · rename_i c hx
      split
      · rename_i hc
        have xk := go.xc _ c hx
        exact (ps_raise g.calm g.tk (pmk_own PySem.F.excBase_ValueError (by rw [g.K]; exact xk.ex) (by rw [g.mg]; exact xk.mg) (by rw [g.K]; exact xk.kp) (raises_own (by rw [g.K]; exact xk.sb) (by rw [g.K]; exact xk.ty)) (gl_of f hc.1) (plain_debug hc.2))).imp fun _ _ _ h => td_raise h
      · exact ps_no
    · exact ps_no
  · rename_i body x1 p1 suite p2 p3
    split
    · rename_i c hd hx hs
      split
      · rename_i hc
        have xk := go.xc _ c hx
        obtain ⟨b₀, suite', rfl⟩ := suite_cons hs
        refine (ps_try_only (c := .ref (C.xcl c)) (tb := fun W' => TDS C W' (rs Γ body)) (ts := fun _ _ _ => TDS C W hd) sf.stk sf.frm ⟨gl_of f hc.1, plain_debug hc.2, .inl (by rw [g.mg]; exact xk.mg)⟩ g.tk (fun W' pn xe tk' own' => ?_) (fun a oe cls d pn hz hv => ?_)).imp fun D σ H h => ?_
        · exact is Γ (X.tr pn xe) W' _ ⟨g.P, g.w, g.K, g.mg, g.base, g.calm, g.nd, g.room, tk', own'⟩ ⟨sf.stk, sf.frm⟩ ⟨f.N, f.sc, f.fnC⟩
        · exact suite_ok (X := X.suite a ((a, oe) :: pn)) (W := W) g.K g.nd ⟨f.N, f.sc, f.fnC⟩ hs
        · have := td_try (c := .ref (C.xcl c)) (fun i k q => go.xs i c k q) h
          rw [g.K]
          exact this
      · exact ps_no
    · exact ps_no
  · exact ps_no
theorem pss_blk {fn : Stmt → MS} (h : ∀ s, PS X s (TDS C W (fn s))) : ∀ l : List Stmt, PSs X l (TDS C W (cBlk fn l))
  | [] => pss_nil.imp fun _ _ _ h => td_nil h
  | [s] => pss_one (h s)
  | s :: t :: r => (pss_cons (h s) (pss_blk h (t :: r))).imp fun _ _ _ h => td_seq h
theorem blk_ok (ih : RecOk C G call k rec) (go : GOk C G call k) : ∀ n : Nat, BlkOkR C k (cSs G call rec n)
  | 0 => fun Γ X W l g sf f => pss_no
  | n + 1 => fun Γ X W l g sf f => pss_blk (fun s => ps_stD ih (blk_ok ih go n) g sf f go s) l
end
end Mi
/-! Mi16: the program: a table of defs; the law. -/
namespace Mi
open PySem L2

structure FE where
  name : Str
  qual : Str
  sd : Stmt
  N : List Str
  ps : List Str
  fzd : Bool
/-- the body of a def as a function of data -/
noncomputable def bodyOf (G : Gs) (call : Nat → Fn) (sd : Stmt) (N : List Str) : MS := cSs G call (cET G call 60) 20 ⟨N, defScope sd, fun _ => true⟩ (defBody sd)
noncomputable def callF (G : Gs) (T : List FE) : Nat → Nat → Fn
  | 0 => fun _ _ _ => .no
  | n + 1 => fun i => match T[i]? with
    | some fe => runF fe.N.length fe.fzd (bodyOf G (callF G T n) fe.sd fe.N)
    | none => fun _ _ => .no
theorem callF_at {G : Gs} {T : List FE} {n i : Nat} {fe : FE} (h : T[i]? = some fe) : callF G T (n + 1) i = runF fe.N.length fe.fzd (bodyOf G (callF G T n) fe.sd fe.N) := by
  show (match T[i]? with
    | some fe => runF fe.N.length fe.fzd (bodyOf G (callF G T n) fe.sd fe.N)
    | none => fun _ _ => .no) = _
  rw [h]
def lev (n : Nat) : Nat := 2 * n + 1
/-- fa: where the defs stand -/
structure TOk (C : Cf) (G : Gs) (T : List FE) (fa : Nat → Addr) : Prop where
  con : ∀ x d, G.con x = some d → ∃ u v, C.mg x = some u ∧ RelV v u ∧ ∀ n μ H, Dat C.K n μ H v d
  nob : ∀ x, x ∈ G.nob → C.mg x = none
  fns : ∀ x i m, G.fn x = some (i, m) → C.mg x = some (.ref (fa i)) ∧ ∃ fe, T[i]? = some fe ∧ fe.ps.length = m
  ok : ∀ (i : Nat) fe, T[i]? = some fe → ∃ fd, Fun C.K fe.name fe.qual fe.sd (fa i) fd ∧ Binds C.K fd fe.ps [] ∧ FnScope fe.N fe.ps (defScope fe.sd)
  cls : ClsOk C G.fld
  mth : ∀ c m i n, G.mth c m = some (i, n) → Cls C.K (C.cls c) ∧ Meth C.K (C.cls c) m (fa i) ∧ ∃ fe, T[i]? = some fe ∧ fe.ps.length = n + 1
  cl : ∀ x c i n, G.cl x = some (c, i, n) → C.mg x = some (.ref (C.cls c)) ∧ C8.InsC C.K (C.cls c) ∧ Mk C.K (C.cls c) (fa i) ∧ ∃ fe, T[i]? = some fe ∧ fe.ps.length = n + 1
  xc : ∀ x c, G.xc x = some c → XcOk C x c
  xs : ∀ i j b, G.xs i j = some b → PySem.W.exmOne C.K (.ref (C.xcl i)) (.ref (C.xcl j)) = some b
section
variable {C : Cf} {G : Gs} {T : List FE} {fa : Nat → Addr}
theorem none_ok {f : Addr} {fd : FuncData} {ps : List Str} {k : Nat} : FnOk C.P C.w C.K C.mg C.base (L2.CX C.P C.w) k f fd ps (SpOf C ps.length fun _ _ => .no) :=
  ⟨fun vs H Q E h => by
    obtain ⟨_, _, _, _, dl, hk, _⟩ := h
    rw [dl.length]; exact hk, fun A outer s H args us vs Q E _ _ _ _ h => by
    obtain ⟨_, _, _, _, _, _, h⟩ := h
    exact False.elim h⟩
/-- from the table's defs to what bodies may use -/
theorem gok_of (t : TOk C G T fa) {call : Nat → Fn} {k : Nat} (h : ∀ i fe fd, T[i]? = some fe → Fun C.K fe.name fe.qual fe.sd (fa i) fd → FnScope fe.N fe.ps (defScope fe.sd) → FnOk C.P C.w C.K C.mg C.base (L2.CX C.P C.w) k (fa i) fd fe.ps (SpOf C fe.ps.length (call i))) : GOk C G call (k + 1) := by
  refine ⟨t.con, fun x i m q => ?_, t.nob, t.cls, ⟨fun c m i n q => ?_⟩, fun x c i n q => ?_, t.xc, t.xs⟩
  · obtain ⟨h0, fe, h1, h2⟩ := t.fns x i m q
    obtain ⟨fd, k2, k3, k4⟩ := t.ok i fe h1
    subst h2
    exact ⟨_, fd, fe.ps, h0, k2.kp, k3, rfl, (h i fe fd h1 k2 k4).mono (Nat.le_succ _)⟩
  · obtain ⟨h0, h00, fe, h1, h2⟩ := t.mth c m i n q
    obtain ⟨fd, k2, k3, k4⟩ := t.ok i fe h1
    exact ⟨h0, _, fd, fe.ps, h00, k3, by rw [← h2]; exact (h i fe fd h1 k2 k4).mono (Nat.le_succ _)⟩
  · obtain ⟨h0, hI, h00, fe, h1, h2⟩ := t.cl x c i n q
    obtain ⟨fd, k2, k3, k4⟩ := t.ok i fe h1
    exact ⟨h0, hI, _, fd, fe.ps, k, Nat.le_refl _, h00, k3, by rw [← h2]; exact h i fe fd h1 k2 k4⟩
theorem fn_at0 (t : TOk C G T fa) {n i : Nat} (ih : GOk C G (callF G T n) (lev n)) {fe : FE} (h1 : T[i]? = some fe) {fd : FuncData} (F : Fun C.K fe.name fe.qual fe.sd (fa i) fd) (S : FnScope fe.N fe.ps (defScope fe.sd)) : FnOk C.P C.w C.K C.mg C.base (L2.CX C.P C.w) (lev n + 1) (fa i) fd fe.ps (SpOf C fe.ps.length (callF G T (n + 1) i)) := by
  rw [callF_at h1]
  exact fn_ok F S fun X W g sf hN hs hf => blk_ok (rec_ok ih 60) ih 20 _ X W _ g sf ⟨hN, hs, fun x _ => by rw [hf]⟩
theorem tab_ok (t : TOk C G T fa) : ∀ n : Nat, GOk C G (callF G T n) (lev n)
  | 0 => gok_of t fun i fe fd h1 k2 k4 => none_ok
  | n + 1 => by
    have e : lev (n + 1) = (lev n + 1) + 1 := by unfold lev; omega
    rw [e]
    exact gok_of t fun i fe fd h1 k2 k4 => fn_at0 t (tab_ok t n) h1 k2 k4
theorem fn_at (t : TOk C G T fa) {n i : Nat} {fe : FE} (h1 : T[i]? = some fe) {fd : FuncData} (F : Fun C.K fe.name fe.qual fe.sd (fa i) fd) (S : FnScope fe.N fe.ps (defScope fe.sd)) : FnOk C.P C.w C.K C.mg C.base (L2.CX C.P C.w) (lev (n + 1)) (fa i) fd fe.ps (SpOf C fe.ps.length (callF G T (n + 1) i)) :=
  (fn_at0 t (tab_ok t n) h1 F S).mono (by unfold lev; omega)
end
theorem kit_self {K : PySem.W.Frag} {c : Value} : PySem.W.kitOne K c c = some true := by
  unfold PySem.W.kitOne
  simp
/-! ### lists of facts -/
inductive AllL {α : Type} (P : α → Prop) : List α → Prop
  | nil : AllL P []
  | cons {a : α} {l : List α} (h : P a) (t : AllL P l) : AllL P (a :: l)
theorem AllL.mem {α : Type} {P : α → Prop} : ∀ {l : List α} {a : α}, AllL P l → a ∈ l → P a
  | _, _, .nil, h => by simp at h
  | _, _, .cons h t, q => by
    rcases List.mem_cons.mp q with rfl | q
    · exact h
    · exact t.mem q
inductive AllI {α : Type} (P : Nat → α → Prop) : Nat → List α → Prop
  | nil {k : Nat} : AllI P k []
  | cons {k : Nat} {a : α} {l : List α} (h : P k a) (t : AllI P (k + 1) l) : AllI P k (a :: l)
theorem AllI.get {α : Type} {P : Nat → α → Prop} : ∀ {l : List α} {k i : Nat} {a : α}, AllI P k l → l[i]? = some a → P (k + i) a
  | _, _, _, _, .nil, h => by simp at h
  | _, k, 0, _, .cons h t, q => by cases q; exact h
  | _, k, i + 1, _, .cons h t, q => by
    have := t.get (i := i) (by simpa using q)
    rwa [Nat.add_right_comm] at this
theorem lookup_mem {α β : Type} [BEq α] [LawfulBEq α] : ∀ {l : List (α × β)} {x : α} {d : β}, l.lookup x = some d → (x, d) ∈ l
  | [], _, _, h => by cases h
  | (y, e) :: r, x, d, h => by
    rw [List.lookup_cons] at h
    split at h
    · rename_i q
      cases h
      have := eq_of_beq q
      subst this
      exact List.mem_cons_self ..
    · exact List.mem_cons_of_mem _ (lookup_mem h)
theorem fld_mem {A : Nat → Prop} {B : Nat → Str → Prop} {T : List (Nat × List Str)} (h : AllL (fun p : Nat × List Str => A p.1 ∧ AllL (fun f => B p.1 f) p.2) T) {c : Nat} {f : Str} (q : f ∈ (T.lookup c).getD []) : A c ∧ B c f := by
  cases e : T.lookup c with
  | none => rw [e] at q; cases q
  | some fs =>
    rw [e] at q
    obtain ⟨h1, h2⟩ := h.mem (lookup_mem e)
    exact ⟨h1, h2.mem q⟩
/-! ### the law's end -/
theorem DatL.ints {K : PySem.W.Frag} {n : Nat} {μ : Mu} {H : Hp} : ∀ ns : List Int, DatL K n μ H (ns.map V.int) (ns.map D.int)
  | [] => .nil
  | i :: r => .cons (.int i) (DatL.ints r)
/-- the law's promise: True comes out -/
def spLaw (K : PySem.W.Frag) : Sp := fun vs H Q _ => ∃ (a : Addr) (ns : List Int), vs = [.ref a] ∧ ns.length ≤ 63 ∧ Only H ∧ SqL K H a (ns.map V.int) ∧ ∀ H', Q (.bl true) H'
theorem law_sp {C : Cf} {f : Fn} (hf : ∀ ns : List Int, ns.length ≤ 63 → ∃ st', f [.frz (ns.map D.int)] [] = .ok (.bl true) st') {vs : List V} {H : Hp} {Q : VK} {E : XK} (h : spLaw C.K vs H Q E) : SpOf C 1 f vs H Q E := by
  obtain ⟨a, ns, rfl, hl, hO, hS, hq⟩ := h
  obtain ⟨st', hf⟩ := hf ns hl
  refine ⟨⟨fun _ => 0, fun _ => False⟩, [], [.frz (ns.map D.int)], ⟨fun i j hi => absurd hi (Nat.not_lt_zero _), fun i o q => (by simp at q), fun i o q => (by simp at q), fun a z => z.elim⟩, .cons (.frz ?_ (by rw [List.length_map]; exact Nat.le_trans hl (by decide)) (DatL.ints ns)) .nil, rfl, ?_⟩
  · rcases hS with (h | ⟨o, h⟩) | h
    · rcases hO a with q | ⟨o, xs, q⟩
      · rw [h] at q; cases q
      · rw [h] at q; cases q
    · exact .inl ⟨⟨o, h⟩, fun z => z⟩
    · exact .inr h
  · rw [hf]
    intro v μ' H' _ _ d
    cases d
    exact hq H'
theorem cx_end {P : Program} {w : World} (H : Hp) (s : Shared) (e : Value) (s' : Shared) (h : L2.CX P w [] H s (fun _ _ _ => False) e s') : False := by
  obtain ⟨_, _, _, _, _, _, _, _, _, _, _, _, z⟩ := h
  exact z
theorem walk {l : PySem.W.OpenLaw} {q : Program} {loose : List Str} {XP : (Str → Option Value) → Heap → Prop} {YP : World → Heap → Prop} {d : DefRec} {K : Params → PySem.W.Frag} {n : Nat} {x : Str} (hn : l.most = some 63) (hdf : d.params.defaults = []) (hr : Room (lev n) callerA)
    (hY : ∀ (w : World) (h : Heap), YP w h → (K w.params).In h)
    (F : ∀ (w : World) (mg : Str → Option Value) (fa : Addr) (h : Heap), (K w.params).In h → h.Ns mainGlobals mg → mg d.name = some (.ref fa) →
      ∃ fd : FuncData, (∀ (s : Shared) (u : Value), BindsTo s fd ⟨[u], []⟩ [(x, u)]) ∧ ∀ base : Heap, (K w.params).In base → base.Ns mainGlobals mg → FnOk l.prog w (K w.params) mg base (L2.CX l.prog w) (lev n) fa fd [x] (spLaw (K w.params))) :
    PySem.W.WalkO q loose XP YP l.row.toRowW d [] (fun f vs => PySem.call f vs) :=
  L2.walk_of (n := 63) (k := lev n) (x := x) (CX := fun w => L2.CX l.prog w) (sp := fun w => spLaw (K w.params)) hn (by decide) hdf hr hY F (fun _ _ a ns hl hO hS => ⟨a, ns, rfl, hl, hO, hS, fun _ => rfl⟩) fun w H s e s' z => cx_end H s e s' z
/-- a tuple of texts of the module -/
theorem con_tup {K : PySem.W.Frag} {a : Addr} {o : Obj} {its : Array Value} {k : Nat} {vs : List V} {ds : List D} (hk : K.lookup a = some o) (hc : o.cls = .type "tuple") (hd : o.data = .seq its k) (hz : its.size ≤ sizeLine) (hv : Vals vs its.toList) (hl : ds.length ≤ sizeLine) (hs : ∀ n μ H, DatL K n μ H vs ds) :
    ∀ n μ H, Dat K n μ H (.ref a) (.tup ds) := fun n μ H => .tup (.inr ⟨o, its, k, hk, hc, hd, hz, hv⟩) hl (hs n μ H)
end Mi
/-! Mi17: running the functions of data. -/
namespace Mi
open PySem L2

section
variable {ρ : Rho} {st : Store} {α β : Type}
@[simp] theorem O_bind_ok (a : α) (st : Store) (k : α → Store → O β) : (O.ok a st).bind k = k a st := rfl
@[simp] theorem O_bind_no (k : α → Store → O β) : (O.no : O α).bind k = .no := rfl
@[simp] theorem O_bind_ex (x : Xc) (st : Store) (k : α → Store → O β) : (O.ex x st : O α).bind k = .ex x st := rfl
@[simp] theorem O_strict_ok (a : α) (st : Store) : (O.ok a st).strict = .ok a st := rfl
@[simp] theorem O_toS_ok (a : α) (st : Store) (ρ : Rho) (k : α → Store → OS) : (O.ok a st).toS ρ k = k a st := rfl
@[simp] theorem O_toS_no (ρ : Rho) (k : α → Store → OS) : (O.no : O α).toS ρ k = .no := rfl
@[simp] theorem OS_turn_nx (ρ : Rho) (st : Store) (k : MS) : (OS.nx ρ st).turn k = k ρ st := rfl
@[simp] theorem OS_turn_ct (ρ : Rho) (st : Store) (k : MS) : (OS.ct ρ st).turn k = k ρ st := rfl
@[simp] theorem OS_turn_rt (d : D) (st : Store) (k : MS) : (OS.rt d st).turn k = .rt d st := rfl
@[simp] theorem OS_turn_bk (ρ : Rho) (st : Store) (k : MS) : (OS.bk ρ st).turn k = .nx ρ st := rfl
theorem sSeq_nx {a b : MS} {ρ1 : Rho} {st1 : Store} (h : a ρ st = .nx ρ1 st1) : sSeq a b ρ st = b ρ1 st1 := by unfold sSeq; rw [h]
theorem sSeq_rt {a b : MS} {d : D} {st1 : Store} (h : a ρ st = .rt d st1) : sSeq a b ρ st = .rt d st1 := by unfold sSeq; rw [h]
theorem mC_run (d : D) : mC d ρ st = .ok d st := rfl
theorem mVar_run {i : Nat} {d : D} (h : ρ[i]? = some (some d)) : mVar i ρ st = .ok d st := by unfold mVar; rw [h]
theorem mNil_run : mNil ρ st = .ok [] st := rfl
theorem mCons_run {a : M D} {r : M (List D)} {d : D} {ds : List D} {st1 st2 : Store} (h : a ρ st = .ok d st1) (h2 : r ρ st1 = .ok ds st2) : mCons a r ρ st = .ok (d :: ds) st2 := by
  unfold mCons; rw [h]; show (r ρ st1).bind _ = _; rw [h2]; rfl
/-- pure lists of turns -/
theorem lcGo_map {g : List (Nat × Ob)} {t : Tgt} {c : M Bool} {e : M D} {enc : α → D} {p : α → Bool} {f : α → D} (hg : guard g st = true) : ∀ {xs : List α}, (∀ x ∈ xs, ∃ ρ1, bindT t (enc x) ρ = some ρ1 ∧ c ρ1 st = .ok (p x) st ∧ (p x = true → e ρ1 st = .ok (f x) st)) → lcGo g ρ t c e (xs.map enc) st = .ok ((xs.filter p).map f) st
  | [], _ => by show lcGo g ρ t c e [] st = _; unfold lcGo; rw [if_pos hg]; rfl
  | x :: r, h => by
    obtain ⟨ρ1, h1, h2, h3⟩ := h x (List.mem_cons_self ..)
    have ih := lcGo_map hg (xs := r) fun y hy => h y (List.mem_cons_of_mem _ hy)
    rw [List.map_cons]
    unfold lcGo
    rw [if_pos hg, h1]
    dsimp only
    rw [h2]
    simp only [O_strict_ok, O_bind_ok]
    cases q : p x with
    | true =>
      rw [if_pos rfl, h3 q]
      simp only [O_strict_ok, O_bind_ok]
      rw [ih, List.filter_cons, if_pos q]
      simp only [O_bind_ok, List.map_cons]
    | false =>
      rw [if_neg Bool.false_ne_true, ih, List.filter_cons, if_neg (by rw [q]; exact Bool.false_ne_true)]
theorem mLc_map {it : M Src} {g : List (Nat × Ob)} {t : Tgt} {vs : List Nat} {c : M Bool} {e : M D} {enc : α → D} {p : α → Bool} {f : α → D} {xs : List α} {st1 : Store} (hi : it ρ st = .ok ⟨xs.map enc, g⟩ st1) (hg : guard g st1 = true) (hl : xs.length ≤ sizeLine)
    (h : ∀ x ∈ xs, ∃ ρ1, bindT t (enc x) (wipeD ρ vs) = some ρ1 ∧ c ρ1 st1 = .ok (p x) st1 ∧ (p x = true → e ρ1 st1 = .ok (f x) st1)) : mLc false it t vs c e ρ st = .ok (.lst ((xs.filter p).map f)) st1 := by
  unfold mLc
  rw [hi]
  simp only [O_bind_ok]
  rw [lcGo_map hg h]
  simp only [O_bind_ok]
  unfold mkL
  rw [if_pos (by rw [List.length_map]; exact Nat.le_trans (List.length_filter_le _ _) hl)]
  rfl
/-- .. without a test -/
theorem mLc_all {it : M Src} {g : List (Nat × Ob)} {t : Tgt} {vs : List Nat} {e : M D} {enc : α → D} {f : α → D} {xs : List α} {st1 : Store} (hi : it ρ st = .ok ⟨xs.map enc, g⟩ st1) (hg : guard g st1 = true) (hl : xs.length ≤ sizeLine)
    (h : ∀ x ∈ xs, ∃ ρ1, bindT t (enc x) (wipeD ρ vs) = some ρ1 ∧ e ρ1 st1 = .ok (f x) st1) : mLc false it t vs mYes e ρ st = .ok (.lst (xs.map f)) st1 := by
  have := mLc_map (p := fun _ => true) (f := f) (c := mYes) hi hg hl fun x hx => by
    obtain ⟨ρ1, h1, h2⟩ := h x hx
    exact ⟨ρ1, h1, rfl, fun _ => h2⟩
  rw [this, List.filter_eq_self.mpr fun _ _ => rfl]
theorem runF_pure {n : Nat} {m : MS} {ds : List D} {d : D} (h : m (startD n ds) st = .rt d st) (hf : fz 64 st.length st d = some d) : runF n true m ds st = .ok d st := by
  unfold runF
  rw [h]
  show retF true st d st = _
  unfold retF
  rw [if_pos rfl, if_pos List.take_length, hf]
theorem runF_cut {n : Nat} {m : MS} {ds : List D} {d d' : D} {ext : Store} (h : m (startD n ds) st = .rt d (st ++ ext)) (hf : fz 64 st.length (st ++ ext) d = some d') : runF n true m ds st = .ok d' st := by
  unfold runF
  rw [h]
  show retF true st d (st ++ ext) = _
  unfold retF
  rw [if_pos rfl, if_pos (by simp), hf]
theorem runF_keep {n : Nat} {m : MS} {ds : List D} {d : D} {st' : Store} (h : m (startD n ds) st = .rt d st') : runF n false m ds st = .ok d st' := by
  unfold runF
  rw [h]
  rfl
/-- a loop, by what stays true -/
theorem forGo_inv {t : Tgt} {b : MS} (I : List D → Rho → Store → Prop) (step : ∀ d r ρ st, I (d :: r) ρ st → ∃ ρ1 ρ' st', bindT t d ρ = some ρ1 ∧ (b ρ1 st = .nx ρ' st' ∨ b ρ1 st = .ct ρ' st') ∧ I r ρ' st') : ∀ {ds : List D} {ρ : Rho} {st : Store}, I ds ρ st → ∃ ρ' st', forGo [] t b ds ρ st = .nx ρ' st' ∧ I [] ρ' st'
  | [], ρ, st, h => ⟨ρ, st, by unfold forGo; rw [if_pos (guard_nil _)], h⟩
  | d :: r, ρ, st, h => by
    obtain ⟨ρ1, ρ', st', h1, h2, h3⟩ := step d r ρ st h
    obtain ⟨ρ2, st2, h4, h5⟩ := forGo_inv I step h3
    refine ⟨ρ2, st2, ?_, h5⟩
    unfold forGo
    rw [if_pos (guard_nil _), h1]
    dsimp only
    rcases h2 with h2 | h2 <;> rw [h2] <;> exact h4
end
end Mi
/-! Mi18: each combinator's run, as rules of rewriting. -/
namespace Mi
open PySem L2
section
variable {ρ : Rho} {st : Store} {α β : Type}
@[simp] theorem r_var0 (d : D) : mVar 0 (some d :: ρ) st = .ok d st := rfl
@[simp] theorem r_varS (i : Nat) (x : Option D) : mVar (i + 1) (x :: ρ) st = mVar i ρ st := by
  unfold mVar; rw [List.getElem?_cons_succ]
@[simp] theorem r_C (d : D) : mC d ρ st = .ok d st := rfl
@[simp] theorem r_nil : mNil ρ st = .ok [] st := rfl
@[simp] theorem r_cons (a : M D) (r : M (List D)) : mCons a r ρ st = (a ρ st).bind fun x st1 => (r ρ st1).bind fun xs st2 => .ok (x :: xs) st2 := rfl
@[simp] theorem r_bin (f : D → D → Store → O D) (a b : M D) : mBin f a b ρ st = (a ρ st).bind fun x st1 => (b ρ st1).bind fun y st2 => f x y st2 := rfl
@[simp] theorem r_un (f : D → Store → O D) (a : M D) : mUn f a ρ st = (a ρ st).bind f := rfl
@[simp] theorem r_app (f : List D → Store → O D) (a : M (List D)) : mApp f a ρ st = (a ρ st).bind f := rfl
@[simp] theorem r_meth (T : String) (f : D → List D → Store → O D) (o : M D) (a : M (List D)) : mMeth T f o a ρ st = (o ρ st).bind fun x st1 => if tyD T x st1 = true then (a ρ st1).bind fun xs st2 => f x xs st2 else .no := rfl
@[simp] theorem r_lst (m : Bool) (a : M (List D)) : mLst m a ρ st = (a ρ st).bind (mkL m) := rfl
@[simp] theorem r_tup (a : M (List D)) : mTup a ρ st = (a ρ st).bind mkT := rfl
@[simp] theorem r_tru (a : M D) : mTru a ρ st = (a ρ st).bind fun d st1 => match dTru d st1 with
  | some b => .ok b st1
  | none => .no := rfl
@[simp] theorem r_test (a : M D) : mTest a ρ st = (a ρ st).bind fun d st1 => match d with
  | .bl b => .ok b st1
  | _ => .no := rfl
@[simp] theorem r_yes : mYes ρ st = .ok true st := rfl
@[simp] theorem r_notT (a : M Bool) : mNotT a ρ st = (a ρ st).bind fun x st1 => .ok (!x) st1 := rfl
@[simp] theorem r_andT (a b : M Bool) : mAndT a b ρ st = (a ρ st).bind fun x st1 => if x = true then b ρ st1 else .ok false st1 := rfl
@[simp] theorem r_orT (a b : M Bool) : mOrT a b ρ st = (a ρ st).bind fun x st1 => if x = true then .ok true st1 else b ρ st1 := rfl
@[simp] theorem r_ifE (c : M Bool) (a b : M D) : mIfE c a b ρ st = (c ρ st).bind fun x st1 => if x = true then a ρ st1 else b ρ st1 := rfl
@[simp] theorem r_ifT (c : M Bool) (a b : M Bool) : mIfT c a b ρ st = (c ρ st).bind fun x st1 => if x = true then a ρ st1 else b ρ st1 := rfl
@[simp] theorem r_andV (a b : M D) : mAndV a b ρ st = (a ρ st).bind fun x st1 => match dTru x st1 with
  | some true => b ρ st1
  | some false => .ok x st1
  | none => .no := rfl
@[simp] theorem r_orV (a b : M D) : mOrV a b ρ st = (a ρ st).bind fun x st1 => match dTru x st1 with
  | some true => .ok x st1
  | some false => b ρ st1
  | none => .no := rfl
@[simp] theorem r_notV (a : M D) : mNotV a ρ st = (a ρ st).bind fun x st1 => match dTru x st1 with
  | some b => .ok (.bl (!b)) st1
  | none => .no := rfl
@[simp] theorem r_chain (f g : D → D → Store → O D) (a b c : M D) : mChain f g a b c ρ st = (a ρ st).bind fun x st1 => (b ρ st1).bind fun y st2 => (f x y st2).bind fun z st3 => match z with
  | .bl true => (c ρ st3).bind fun w st4 => g y w st4
  | .bl false => .ok (.bl false) st3
  | _ => .no := rfl
@[simp] theorem r_part (a : M D) : mPart a ρ st = (a ρ st).bind fun d st1 => match d with
  | .int i => .ok (some i) st1
  | _ => .no := rfl
@[simp] theorem r_nopart : mNoPart ρ st = .ok none st := rfl
@[simp] theorem r_sl (m : Bool) (a : M D) (lo hi : M (Option Int)) : mSl m a lo hi ρ st = (a ρ st).bind fun x st1 => (lo ρ st1).bind fun l st2 => (hi ρ st2).bind fun h st3 => dSl m x l h st3 := rfl
@[simp] theorem r_items (a : M D) : mItems a ρ st = (a ρ st).bind fun d st1 => match itemsD st1 d with
  | some xs => .ok xs st1
  | none => .no := rfl
@[simp] theorem r_range1 (a : M D) : mRange1 a ρ st = (a ρ st).bind fun d st1 => match d with
  | .int j => if j ≤ sizeLine ∧ -(2 ^ 62) ≤ j then .ok ⟨rangeD 0 j.toNat, []⟩ st1 else .no
  | _ => .no := rfl
@[simp] theorem r_isi (Ts : List String) (a : M D) : mIsi Ts a ρ st = (a ρ st).bind fun d st1 => match tyOfD d st1 with
  | some t => .ok (.bl (Ts.any (subT t))) st1
  | none => .no := rfl
@[simp] theorem r_call (k : Nat) (f : Fn) (a : M (List D)) : mCall k f a ρ st = (a ρ st).bind fun ds st1 => if ds.length = k then f ds st1 else .no := rfl
@[simp] theorem r_asg (e : M D) (t : Tgt) : sAsg e t ρ st = (e ρ st).toS ρ fun d st1 => match bindT t d ρ with
  | some ρ1 => .nx ρ1 st1
  | none => .no := rfl
@[simp] theorem r_expr (e : M D) : sExpr e ρ st = (e ρ st).toS ρ fun _ st1 => .nx ρ st1 := rfl
@[simp] theorem r_ret (e : M D) : sRet e ρ st = (e ρ st).toS ρ fun d st1 => .rt d st1 := rfl
@[simp] theorem r_if (c : M Bool) (a b : MS) : sIf c a b ρ st = (c ρ st).toS ρ fun x st1 => if x = true then a ρ st1 else b ρ st1 := rfl
@[simp] theorem r_snil : sNil ρ st = .nx ρ st := rfl
def OS.seq (o : OS) (b : MS) : OS := match o with
  | .nx ρ st => b ρ st
  | o => o
theorem r_seq (a b : MS) : sSeq a b ρ st = (a ρ st).seq b := by
  unfold sSeq OS.seq
  cases a ρ st <;> rfl
@[simp] theorem seq_nx (b : MS) : (OS.nx ρ st).seq b = b ρ st := rfl
@[simp] theorem seq_rt (d : D) (b : MS) : (OS.rt d st).seq b = .rt d st := rfl
@[simp] theorem seq_no (b : MS) : (OS.no).seq b = .no := rfl
@[simp] theorem bindT_one (i : Nat) (d : D) : bindT (.one i) d ρ = some (ρ.set i (some d)) := rfl
@[simp] theorem start1 (n : Nat) (ds : List D) : startD n ds = ds.map some ++ List.replicate (n - ds.length) none := rfl
@[simp] theorem wipe1 (v : Nat) : wipeD ρ [v] = ρ.set v none := rfl
theorem eqD_int (i j : Int) : eqD (.int i) (.int j) = decide (i = j) := by
  show (i == j) = _
  rfl
theorem eqD_bl (i j : Bool) : eqD (.bl i) (.bl j) = decide (i = j) := by cases i <;> cases j <;> rfl
theorem eqD_str (i j : Str) : eqD (.str i) (.str j) = decide (i = j) := by
  show (i == j) = _
  by_cases h : i = j
  · subst h; simp
  · rw [decide_eq_false h]; simpa using h
@[simp] theorem e_ints (i j : Int) (n : Bool) : dEq n (.int i) (.int j) st = .ok (.bl (sgn n (decide (i = j)))) st := by
  rw [← eqD_int]; cases n <;> rfl
@[simp] theorem e_bls (i j : Bool) (n : Bool) : dEq n (.bl i) (.bl j) st = .ok (.bl (sgn n (decide (i = j)))) st := by
  rw [← eqD_bl]; cases n <;> rfl
@[simp] theorem e_strs (i j : Str) (n : Bool) : dEq n (.str i) (.str j) st = .ok (.bl (sgn n (decide (i = j)))) st := by
  rw [← eqD_str]; cases n <;> rfl
@[simp] theorem sgnT (b : Bool) : sgn true b = !b := rfl
@[simp] theorem sgnF (b : Bool) : sgn false b = b := rfl
@[simp] theorem l_ints (i j : Int) : dLe (.int i) (.int j) st = .ok (.bl (decide (i ≤ j))) st := rfl
@[simp] theorem a_ints (m : Bool) (i j : Int) : dAdd m (.int i) (.int j) st = .ok (.int (i + j)) st := rfl
@[simp] theorem s_ints (i j : Int) : dSub (.int i) (.int j) st = .ok (.int (i - j)) st := rfl
@[simp] theorem tru_bl (b : Bool) : dTru (.bl b) st = some b := rfl
@[simp] theorem len_str (s : Str) : dLen [.str s] st = .ok (.int s.length) st := rfl
@[simp] theorem ty_str (s : Str) : tyOfD (.str s) st = some "str" := rfl
@[simp] theorem ty_int (s : Int) : tyOfD (.int s) st = some "int" := rfl
@[simp] theorem ty_bl (s : Bool) : tyOfD (.bl s) st = some "bool" := rfl
@[simp] theorem ty_non : tyOfD .non st = some "NoneType" := rfl
@[simp] theorem ty_lst (s : List D) : tyOfD (.lst s) st = some "list" := rfl
@[simp] theorem ty_tup (s : List D) : tyOfD (.tup s) st = some "tuple" := rfl
theorem range_ok {a : M D} {j : Int} {st1 : Store} (h : a ρ st = .ok (.int j) st1) (h0 : 0 ≤ j) (h1 : j ≤ 16777216) : mRange1 a ρ st = .ok ⟨rangeD 0 j.toNat, []⟩ st1 := by
  rw [r_range1, h]
  show (if j ≤ sizeLine ∧ -(2 ^ 62) ≤ j then O.ok (⟨rangeD 0 j.toNat, []⟩ : Src) st1 else .no) = _
  rw [if_pos ⟨by unfold sizeLine; omega, by omega⟩]
/-! the same, step by step -/
section
variable {a b : M D} {d x y : D} {st1 st2 : Store}
theorem run_bin {f : D → D → Store → O D} {r : O D} (ha : a ρ st = .ok x st1) (hb : b ρ st1 = .ok y st2) (hf : f x y st2 = r) : mBin f a b ρ st = r := by rw [r_bin, ha, O_bind_ok, hb, O_bind_ok, hf]
theorem run_un {f : D → Store → O D} {r : O D} (ha : a ρ st = .ok x st1) (hf : f x st1 = r) : mUn f a ρ st = r := by rw [r_un, ha, O_bind_ok, hf]
theorem run_app {f : List D → Store → O D} {as : M (List D)} {ds : List D} {r : O D} (ha : as ρ st = .ok ds st1) (hf : f ds st1 = r) : mApp f as ρ st = r := by rw [r_app, ha, O_bind_ok, hf]
theorem run_args1 (ha : a ρ st = .ok x st1) : mCons a mNil ρ st = .ok [x] st1 := by rw [r_cons, ha]; rfl
theorem run_cons {as : M (List D)} {ds : List D} (ha : a ρ st = .ok x st1) (hs : as ρ st1 = .ok ds st2) : mCons a as ρ st = .ok (x :: ds) st2 := by rw [r_cons, ha, O_bind_ok, hs]; rfl
theorem run_app1 {f : List D → Store → O D} {r : O D} (ha : a ρ st = .ok x st1) (hf : f [x] st1 = r) : mApp f (mCons a mNil) ρ st = r := run_app (run_args1 ha) hf
theorem run_meth {T : String} {f : D → List D → Store → O D} {as : M (List D)} {ds : List D} {r : O D} (ha : a ρ st = .ok x st1) (ht : tyD T x st1 = true) (hs : as ρ st1 = .ok ds st2) (hf : f x ds st2 = r) : mMeth T f a as ρ st = r := by rw [r_meth, ha, O_bind_ok, if_pos ht, hs, O_bind_ok, hf]
theorem run_call {k : Nat} {f : Fn} {as : M (List D)} {ds : List D} {r : O D} (hs : as ρ st = .ok ds st1) (hk : ds.length = k) (hf : f ds st1 = r) : mCall k f as ρ st = r := by rw [r_call, hs, O_bind_ok, if_pos hk, hf]
theorem run_call1 {f : Fn} {r : O D} (ha : a ρ st = .ok x st1) (hf : f [x] st1 = r) : mCall 1 f (mCons a mNil) ρ st = r := run_call (run_args1 ha) rfl hf
theorem run_call2 {f : Fn} {r : O D} (ha : a ρ st = .ok x st1) (hb : b ρ st1 = .ok y st2) (hf : f [x, y] st2 = r) : mCall 2 f (mCons a (mCons b mNil)) ρ st = r := run_call (run_cons ha (run_args1 hb)) rfl hf
theorem run_test {v : Bool} (ha : a ρ st = .ok (.bl v) st1) : mTest a ρ st = .ok v st1 := by rw [r_test, ha]; rfl
theorem run_tru {v : Bool} (ha : a ρ st = .ok x st1) (hv : dTru x st1 = some v) : mTru a ρ st = .ok v st1 := by rw [r_tru, ha, O_bind_ok, hv]
theorem run_notT {c : M Bool} {v : Bool} (h : c ρ st = .ok v st1) : mNotT c ρ st = .ok (!v) st1 := by rw [r_notT, h]; rfl
theorem run_orF {c e : M Bool} {r : O Bool} (h : c ρ st = .ok false st1) (h2 : e ρ st1 = r) : mOrT c e ρ st = r := by rw [r_orT, h]; exact h2
theorem run_orT {c e : M Bool} (h : c ρ st = .ok true st1) : mOrT c e ρ st = .ok true st1 := by rw [r_orT, h]; rfl
theorem run_andVT {r : O D} (h : a ρ st = .ok x st1) (ht : dTru x st1 = some true) (h2 : b ρ st1 = r) : mAndV a b ρ st = r := by rw [r_andV, h, O_bind_ok, ht]; exact h2
theorem run_andVF (h : a ρ st = .ok x st1) (ht : dTru x st1 = some false) : mAndV a b ρ st = .ok x st1 := by rw [r_andV, h, O_bind_ok, ht]
theorem run_notV {v : Bool} (h : a ρ st = .ok x st1) (ht : dTru x st1 = some v) : mNotV a ρ st = .ok (.bl (!v)) st1 := by rw [r_notV, h, O_bind_ok, ht]
theorem run_ifET {c : M Bool} {r : O D} (h : c ρ st = .ok true st1) (h2 : a ρ st1 = r) : mIfE c a b ρ st = r := by rw [r_ifE, h]; exact h2
theorem run_ifEF {c : M Bool} {r : O D} (h : c ρ st = .ok false st1) (h2 : b ρ st1 = r) : mIfE c a b ρ st = r := by rw [r_ifE, h]; exact h2
theorem run_lst {as : M (List D)} {ds : List D} (hs : as ρ st = .ok ds st1) (hl : ds.length ≤ sizeLine) : mLst false as ρ st = .ok (.lst ds) st1 := by
  rw [r_lst, hs, O_bind_ok]; unfold mkL; rw [if_pos hl, if_neg Bool.false_ne_true]
theorem run_seq {p q : MS} {ρ1 : Rho} {r : OS} (h : p ρ st = .nx ρ1 st1) (h2 : q ρ1 st1 = r) : sSeq p q ρ st = r := by rw [sSeq_nx h, h2]
theorem run_asg {i : Nat} (h : a ρ st = .ok d st1) : sAsg a (.one i) ρ st = .nx (ρ.set i (some d)) st1 := by rw [r_asg, h]; rfl
theorem run_expr (h : a ρ st = .ok d st1) : sExpr a ρ st = .nx ρ st1 := by rw [r_expr, h]; rfl
theorem run_ret (h : a ρ st = .ok d st1) : sRet a ρ st = .rt d st1 := by rw [r_ret, h]; rfl
theorem run_ifF {c : M Bool} {p q : MS} {r : OS} (h : c ρ st = .ok false st1) (h2 : q ρ st1 = r) : sIf c p q ρ st = r := by rw [r_if, h]; exact h2
theorem run_ifT {c : M Bool} {p q : MS} {r : OS} (h : c ρ st = .ok true st1) (h2 : p ρ st1 = r) : sIf c p q ρ st = r := by rw [r_if, h]; exact h2
theorem run_skip {c : M Bool} {p : MS} (h : c ρ st = .ok false st1) : sIf c p sNil ρ st = .nx ρ st1 := run_ifF h rfl
end
end
end Mi
/-! Mi19: running by rewriting: `ev`. -/
namespace Mi
open PySem L2
section
variable {α β : Type} {ρ : Rho} {st : Store}
theorem O_toS_ex (x : Xc) (st : Store) (ρ : Rho) (k : α → Store → OS) : (O.ex x st : O α).toS ρ k = .ex x ρ st := rfl
theorem seq_ex (x : Xc) (b : MS) : (OS.ex x ρ st).seq b = .ex x ρ st := rfl
theorem seq_bk (b : MS) : (OS.bk ρ st).seq b = .bk ρ st := rfl
theorem seq_ct (b : MS) : (OS.ct ρ st).seq b = .ct ρ st := rfl
theorem turn_ex (x : Xc) (b : MS) : (OS.ex x ρ st).turn b = .ex x ρ st := rfl
/-! what goes on, by names -/
def kBin (f : D → D → Store → O D) (b : M D) (ρ : Rho) (x : D) (st : Store) : O D := (b ρ st).bind (f x)
def kCons (r : M (List D)) (ρ : Rho) (x : D) (st : Store) : O (List D) := (r ρ st).bind fun xs st2 => .ok (x :: xs) st2
def kCons2 (x : D) (xs : List D) (st : Store) : O (List D) := .ok (x :: xs) st
def kMeth (T : String) (f : D → List D → Store → O D) (a : M (List D)) (ρ : Rho) (x : D) (st : Store) : O D := if tyD T x st = true then (a ρ st).bind (f x) else .no
def kTruO : Option Bool → Store → O Bool
  | some b, st => .ok b st
  | none, _ => .no
def kTru (d : D) (st : Store) : O Bool := kTruO (dTru d st) st
def kTest : D → Store → O Bool
  | .bl b, st => .ok b st
  | _, _ => .no
def kNotT (x : Bool) (st : Store) : O Bool := .ok (!x) st
def kIte {γ : Type} (a b : M γ) (ρ : Rho) : Bool → Store → O γ
  | true, st => a ρ st
  | false, st => b ρ st
def kAndT (b : M Bool) (ρ : Rho) : Bool → Store → O Bool
  | true, st => b ρ st
  | false, st => .ok false st
def kOrT (b : M Bool) (ρ : Rho) : Bool → Store → O Bool
  | true, st => .ok true st
  | false, st => b ρ st
def kAndO (x : D) (b : M D) (ρ : Rho) : Option Bool → Store → O D
  | some true, st => b ρ st
  | some false, st => .ok x st
  | none, _ => .no
def kAndV (b : M D) (ρ : Rho) (x : D) (st : Store) : O D := kAndO x b ρ (dTru x st) st
def kOrO (x : D) (b : M D) (ρ : Rho) : Option Bool → Store → O D
  | some true, st => .ok x st
  | some false, st => b ρ st
  | none, _ => .no
def kOrV (b : M D) (ρ : Rho) (x : D) (st : Store) : O D := kOrO x b ρ (dTru x st) st
def kNotO : Option Bool → Store → O D
  | some b, st => .ok (.bl (!b)) st
  | none, _ => .no
def kNotV (x : D) (st : Store) : O D := kNotO (dTru x st) st
def kChain3 (g : D → D → Store → O D) (c : M D) (ρ : Rho) (y : D) : D → Store → O D
  | .bl true, st => (c ρ st).bind (g y)
  | .bl false, st => .ok (.bl false) st
  | _, _ => .no
def kChain2 (f g : D → D → Store → O D) (c : M D) (ρ : Rho) (x y : D) (st : Store) : O D := (f x y st).bind (kChain3 g c ρ y)
def kChain (f g : D → D → Store → O D) (b c : M D) (ρ : Rho) (x : D) (st : Store) : O D := (b ρ st).bind (kChain2 f g c ρ x)
def kPart : D → Store → O (Option Int)
  | .int i, st => .ok (some i) st
  | _, _ => .no
def kSl3 (m : Bool) (x : D) (l : Option Int) (h : Option Int) (st : Store) : O D := dSl m x l h st
def kSl2 (m : Bool) (x : D) (hi : M (Option Int)) (ρ : Rho) (l : Option Int) (st : Store) : O D := (hi ρ st).bind (kSl3 m x l)
def kSl (m : Bool) (lo hi : M (Option Int)) (ρ : Rho) (x : D) (st : Store) : O D := (lo ρ st).bind (kSl2 m x hi ρ)
def kSrcO : Option Src → Store → O Src
  | some s, st => .ok s st
  | none, _ => .no
def kItems (d : D) (st : Store) : O Src := kSrcO (itemsD st d) st
def kEnumO : Option Src → Store → O Src
  | some s, st => .ok ⟨enumD s.ds, s.g⟩ st
  | none, _ => .no
def kEnum (d : D) (st : Store) : O Src := kEnumO (listG st d) st
def kZip2 (d e : D) (st : Store) : O Src := kSrcO (zipS st d e) st
def kZip (b : M D) (ρ : Rho) (d : D) (st : Store) : O Src := (b ρ st).bind (kZip2 d)
def kRange1 : D → Store → O Src
  | .int j, st => if j ≤ sizeLine ∧ -(2 ^ 62) ≤ j then .ok ⟨rangeD 0 j.toNat, []⟩ st else .no
  | _, _ => .no
def kRange3 : D → D → Store → O Src
  | .int i, .int j, st => if -(2 ^ 62) ≤ i ∧ i < 2 ^ 62 ∧ -(2 ^ 62) ≤ j ∧ j < 2 ^ 62 ∧ j - i ≤ sizeLine then .ok ⟨rangeD i (j - i).toNat, []⟩ st else .no
  | _, _, _ => .no
def kRange2 (b : M D) (ρ : Rho) (d : D) (st : Store) : O Src := (b ρ st).bind (kRange3 d)
def kIsiO (Ts : List String) : Option String → Store → O D
  | some t, st => .ok (.bl (Ts.any (subT t))) st
  | none, _ => .no
def kIsi (Ts : List String) (d : D) (st : Store) : O D := kIsiO Ts (tyOfD d st) st
def kIsCO (c : Nat) : Option (Nat × List (Str × D)) → Store → O D
  | some (c', _), st => if c' = c then .ok (.bl true) st else .no
  | none, _ => .no
def kIsC (c : Nat) (d : D) (st : Store) : O D := kIsCO c (insAt st d) st
def kCall (k : Nat) (f : Fn) (ds : List D) (st : Store) : O D := if ds.length = k then f ds st else .no
def kAttrO2 : Option D → Store → O D
  | some x, st => .ok x st
  | none, _ => .no
def kAttrO (fld : Nat → List Str) (f : Str) : Option (Nat × List (Str × D)) → Store → O D
  | some (c, fs), st => if f ∈ fld c then kAttrO2 (fs.lookup f) st else .no
  | none, _ => .no
def kAttr (fld : Nat → List Str) (f : Str) (d : D) (st : Store) : O D := kAttrO fld f (insAt st d) st
def kMth3 (call : Nat → Fn) (i n : Nat) (d : D) (ds : List D) (st : Store) : O D := if ds.length = n then call i (d :: ds) st else .no
def kMth2 (call : Nat → Fn) (a : M (List D)) (ρ : Rho) (d : D) : Option (Nat × Nat) → Option D → Store → O D
  | some (i, n), none, st => (a ρ st).bind (kMth3 call i n d)
  | _, _, _ => .no
def kMthO (mth : Nat → Str → Option (Nat × Nat)) (call : Nat → Fn) (m : Str) (a : M (List D)) (ρ : Rho) (d : D) : Option (Nat × List (Str × D)) → Store → O D
  | some (c, fs), st => kMth2 call a ρ d (mth c m) (fs.lookup m) st
  | none, _ => .no
def kMth (mth : Nat → Str → Option (Nat × Nat)) (call : Nat → Fn) (m : Str) (a : M (List D)) (ρ : Rho) (d : D) (st : Store) : O D := kMthO mth call m a ρ d (insAt st d) st
def kMake (c n : Nat) (f : Fn) (ds : List D) (st : Store) : O D := if ds.length = n then (f (.ref st.length :: ds) (st ++ [.ins c []])).bind (isNonO (.ref st.length)) else .no
def kAsgO : Option Rho → Store → OS
  | some ρ, st => .nx ρ st
  | none, _ => .no
def kAsg (t : Tgt) (ρ : Rho) (d : D) (st : Store) : OS := kAsgO (bindT t d ρ) st
def kExpr (ρ : Rho) (_ : D) (st : Store) : OS := .nx ρ st
def kRet (d : D) (st : Store) : OS := .rt d st
def kIf (a b : MS) (ρ : Rho) : Bool → Store → OS
  | true, st => a ρ st
  | false, st => b ρ st
def kAtr2 (fld : Nat → List Str) (f : Str) (ρ : Rho) (x d : D) (st : Store) : OS := setAt fld f x st ρ d
def kAtr (fld : Nat → List Str) (f : Str) (o : M D) (ρ : Rho) (x : D) (st : Store) : OS := (o ρ st).toS ρ (kAtr2 fld f ρ x)
def kSetO (fld : Nat → List Str) (f : Str) (x : D) (st : Store) (ρ : Rho) (i : Nat) : Option Ob → OS
  | some (.ins c fs) => if f ∈ fld c ∧ fs.length < 800 then .nx ρ (st.set i (.ins c (putD f x fs))) else .no
  | _ => .no
def kAa3 (fld : Nat → List Str) (f : Str) (ρ : Rho) (d : D) (c : Nat) (i : Int) : D → Store → OS
  | .int j, st => if (insAt st d).map (·.1) = some c then setAt fld f (.int (i + j)) st ρ d else .no
  | _, _ => .no
def kAa2 (fld : Nat → List Str) (f : Str) (v : M D) (ρ : Rho) (d : D) (c : Nat) : Option D → Store → OS
  | some (.int i), st => (v ρ st).toS ρ (kAa3 fld f ρ d c i)
  | _, _ => .no
def kAa1 (fld : Nat → List Str) (f : Str) (v : M D) (ρ : Rho) (d : D) : Option (Nat × List (Str × D)) → Store → OS
  | some (c, fs), st => if f ∈ fld c then kAa2 fld f v ρ d c (fs.lookup f) st else .no
  | none, _ => .no
def kAa (fld : Nat → List Str) (f : Str) (v : M D) (ρ : Rho) (d : D) (st : Store) : OS := kAa1 fld f v ρ d (insAt st d) st
def kStep2 (m : Bool) (x : D) (j : Option Int) (st : Store) : O D := dStep m x j st
def kStep (m : Bool) (k : M (Option Int)) (ρ : Rho) (x : D) (st : Store) : O D := (k ρ st).bind (kStep2 m x)
noncomputable def kLc (m : Bool) (ρ : Rho) (t : Tgt) (c : M Bool) (e : M D) (s : Src) (st : Store) : O D := (lcGo s.g ρ t c e s.ds st).bind (mkL m)
noncomputable def kFor (t : Tgt) (b : MS) (ρ : Rho) (s : Src) (st : Store) : OS := forGo s.g t b s.ds ρ st
def kInsO : Option Ob → Option (Nat × List (Str × D))
  | some (.ins c fs) => some (c, fs)
  | _ => none
theorem q_bin (f : D → D → Store → O D) (a b : M D) : mBin f a b ρ st = (a ρ st).bind (kBin f b ρ) := rfl
theorem q_bin2 (f : D → D → Store → O D) (b : M D) (x : D) : kBin f b ρ x st = (b ρ st).bind (f x) := rfl
theorem q_cons (a : M D) (r : M (List D)) : mCons a r ρ st = (a ρ st).bind (kCons r ρ) := rfl
theorem q_cons1 (r : M (List D)) (x : D) : kCons r ρ x st = (r ρ st).bind (kCons2 x) := rfl
theorem q_cons2 (x : D) (xs : List D) : kCons2 x xs st = .ok (x :: xs) st := rfl
theorem q_meth (T : String) (f : D → List D → Store → O D) (o : M D) (a : M (List D)) : mMeth T f o a ρ st = (o ρ st).bind (kMeth T f a ρ) := rfl
theorem q_meth1 (T : String) (f : D → List D → Store → O D) (a : M (List D)) (x : D) : kMeth T f a ρ x st = if tyD T x st = true then (a ρ st).bind (f x) else .no := rfl
theorem q_tru (a : M D) : mTru a ρ st = (a ρ st).bind kTru := by
  unfold mTru kTru
  congr 1; funext d st1
  cases dTru d st1 <;> rfl
theorem q_tru1 (d : D) : kTru d st = kTruO (dTru d st) st := rfl
theorem q_truO (b : Bool) : kTruO (some b) st = .ok b st := rfl
theorem q_test (a : M D) : mTest a ρ st = (a ρ st).bind kTest := by
  unfold mTest
  congr 1; funext d st1; cases d <;> rfl
theorem q_test1 (b : Bool) : kTest (.bl b) st = .ok b st := rfl
theorem q_notT (a : M Bool) : mNotT a ρ st = (a ρ st).bind kNotT := rfl
theorem q_notT1 (b : Bool) : kNotT b st = .ok (!b) st := rfl
theorem q_andT (a b : M Bool) : mAndT a b ρ st = (a ρ st).bind (kAndT b ρ) := by
  unfold mAndT
  congr 1; funext x st1; cases x <;> rfl
theorem q_andTt (b : M Bool) : kAndT b ρ true st = b ρ st := rfl
theorem q_andTf (b : M Bool) : kAndT b ρ false st = .ok false st := rfl
theorem q_orT (a b : M Bool) : mOrT a b ρ st = (a ρ st).bind (kOrT b ρ) := by
  unfold mOrT
  congr 1; funext x st1; cases x <;> rfl
theorem q_orTt (b : M Bool) : kOrT b ρ true st = .ok true st := rfl
theorem q_orTf (b : M Bool) : kOrT b ρ false st = b ρ st := rfl
theorem q_ifE (c : M Bool) (a b : M D) : mIfE c a b ρ st = (c ρ st).bind (kIte a b ρ) := by
  unfold mIfE
  congr 1; funext x st1; cases x <;> rfl
theorem q_ifT (c : M Bool) (a b : M Bool) : mIfT c a b ρ st = (c ρ st).bind (kIte a b ρ) := by
  unfold mIfT
  congr 1; funext x st1; cases x <;> rfl
theorem q_iteT {γ : Type} (a b : M γ) : kIte a b ρ true st = a ρ st := rfl
theorem q_iteF {γ : Type} (a b : M γ) : kIte a b ρ false st = b ρ st := rfl
theorem q_andV (a b : M D) : mAndV a b ρ st = (a ρ st).bind (kAndV b ρ) := by
  unfold mAndV kAndV
  congr 1; funext x st1
  cases dTru x st1 with
  | none => rfl
  | some b => cases b <;> rfl
theorem q_andV1 (b : M D) (x : D) : kAndV b ρ x st = kAndO x b ρ (dTru x st) st := rfl
theorem q_andOt (x : D) (b : M D) : kAndO x b ρ (some true) st = b ρ st := rfl
theorem q_andOf (x : D) (b : M D) : kAndO x b ρ (some false) st = .ok x st := rfl
theorem q_orV (a b : M D) : mOrV a b ρ st = (a ρ st).bind (kOrV b ρ) := by
  unfold mOrV kOrV
  congr 1; funext x st1
  cases dTru x st1 with
  | none => rfl
  | some b => cases b <;> rfl
theorem q_orV1 (b : M D) (x : D) : kOrV b ρ x st = kOrO x b ρ (dTru x st) st := rfl
theorem q_orOt (x : D) (b : M D) : kOrO x b ρ (some true) st = .ok x st := rfl
theorem q_orOf (x : D) (b : M D) : kOrO x b ρ (some false) st = b ρ st := rfl
theorem q_notV (a : M D) : mNotV a ρ st = (a ρ st).bind kNotV := by
  unfold mNotV kNotV
  congr 1; funext x st1
  cases dTru x st1 <;> rfl
theorem q_notV1 (x : D) : kNotV x st = kNotO (dTru x st) st := rfl
theorem q_notO (b : Bool) : kNotO (some b) st = .ok (.bl (!b)) st := rfl
theorem q_chain (f g : D → D → Store → O D) (a b c : M D) : mChain f g a b c ρ st = (a ρ st).bind (kChain f g b c ρ) := by
  unfold mChain kChain kChain2
  congr 1; funext x st1
  congr 1; funext y st2
  congr 1; funext z st3
  cases z <;> first | rfl | (rename_i b; cases b <;> rfl)
theorem q_chain1 (f g : D → D → Store → O D) (b c : M D) (x : D) : kChain f g b c ρ x st = (b ρ st).bind (kChain2 f g c ρ x) := rfl
theorem q_chain2 (f g : D → D → Store → O D) (c : M D) (x y : D) : kChain2 f g c ρ x y st = (f x y st).bind (kChain3 g c ρ y) := rfl
theorem q_chain3t (g : D → D → Store → O D) (c : M D) (y : D) : kChain3 g c ρ y (.bl true) st = (c ρ st).bind (g y) := rfl
theorem q_chain3f (g : D → D → Store → O D) (c : M D) (y : D) : kChain3 g c ρ y (.bl false) st = .ok (.bl false) st := rfl
theorem q_part (a : M D) : mPart a ρ st = (a ρ st).bind kPart := by
  unfold mPart
  congr 1; funext d st1; cases d <;> rfl
theorem q_part1 (i : Int) : kPart (.int i) st = .ok (some i) st := rfl
theorem q_sl (m : Bool) (a : M D) (lo hi : M (Option Int)) : mSl m a lo hi ρ st = (a ρ st).bind (kSl m lo hi ρ) := rfl
theorem q_sl1 (m : Bool) (lo hi : M (Option Int)) (x : D) : kSl m lo hi ρ x st = (lo ρ st).bind (kSl2 m x hi ρ) := rfl
theorem q_sl2 (m : Bool) (hi : M (Option Int)) (x : D) (l : Option Int) : kSl2 m x hi ρ l st = (hi ρ st).bind (kSl3 m x l) := rfl
theorem q_sl3 (m : Bool) (x : D) (l h : Option Int) : kSl3 m x l h st = dSl m x l h st := rfl
theorem q_items (a : M D) : mItems a ρ st = (a ρ st).bind kItems := by
  unfold mItems kItems
  congr 1; funext d st1
  cases itemsD st1 d <;> rfl
theorem q_items1 (d : D) : kItems d st = kSrcO (itemsD st d) st := rfl
theorem q_srcO (s : Src) : kSrcO (some s) st = .ok s st := rfl
theorem q_enum (a : M D) : mEnum a ρ st = (a ρ st).bind kEnum := by
  unfold mEnum kEnum
  congr 1; funext d st1
  cases listG st1 d <;> rfl
theorem q_enum1 (d : D) : kEnum d st = kEnumO (listG st d) st := rfl
theorem q_enumO (s : Src) : kEnumO (some s) st = .ok ⟨enumD s.ds, s.g⟩ st := rfl
theorem q_zip (a b : M D) : mZip a b ρ st = (a ρ st).bind (kZip b ρ) := by
  unfold mZip kZip kZip2
  congr 1; funext d st1
  congr 1; funext e st2
  cases zipS st2 d e <;> rfl
theorem q_zip1 (b : M D) (d : D) : kZip b ρ d st = (b ρ st).bind (kZip2 d) := rfl
theorem q_zip2 (d e : D) : kZip2 d e st = kSrcO (zipS st d e) st := rfl
theorem zipS_tt (xs ys : List D) : zipS st (.tup xs) (.tup ys) = some ⟨zipD xs ys, []⟩ := rfl
theorem zipS_ll (xs ys : List D) : zipS st (.lst xs) (.lst ys) = some ⟨zipD xs ys, []⟩ := rfl
theorem q_range1 (a : M D) : mRange1 a ρ st = (a ρ st).bind kRange1 := by
  unfold mRange1
  congr 1; funext d st1; cases d <;> rfl
theorem q_range11 {j : Int} (h : 0 ≤ j ∧ j ≤ 16777216) : kRange1 (.int j) st = .ok ⟨rangeD 0 j.toNat, []⟩ st := by
  show (if j ≤ sizeLine ∧ -(2 ^ 62) ≤ j then O.ok (⟨rangeD 0 j.toNat, []⟩ : Src) st else .no) = _
  rw [if_pos ⟨by unfold sizeLine; omega, by omega⟩]
theorem q_range2 (a b : M D) : mRange2 a b ρ st = (a ρ st).bind (kRange2 b ρ) := by
  unfold mRange2 kRange2
  congr 1; funext d st1
  congr 1; funext e st2
  cases d <;> cases e <;> rfl
theorem q_range21 (b : M D) (d : D) : kRange2 b ρ d st = (b ρ st).bind (kRange3 d) := rfl
theorem q_range3 {i j : Int} (h : -1000000 ≤ i ∧ i ≤ 1000000 ∧ -1000000 ≤ j ∧ j ≤ 1000000) : kRange3 (.int i) (.int j) st = .ok ⟨rangeD i (j - i).toNat, []⟩ st := by
  show (if -(2 ^ 62) ≤ i ∧ i < 2 ^ 62 ∧ -(2 ^ 62) ≤ j ∧ j < 2 ^ 62 ∧ j - i ≤ sizeLine then O.ok (⟨rangeD i (j - i).toNat, []⟩ : Src) st else .no) = _
  rw [if_pos ⟨by omega, by omega, by omega, by omega, by unfold sizeLine; omega⟩]
theorem q_isi (Ts : List String) (a : M D) : mIsi Ts a ρ st = (a ρ st).bind (kIsi Ts) := by
  unfold mIsi kIsi
  congr 1; funext d st1
  cases tyOfD d st1 <;> rfl
theorem q_isi1 (Ts : List String) (d : D) : kIsi Ts d st = kIsiO Ts (tyOfD d st) st := rfl
theorem q_isiO (Ts : List String) (t : String) : kIsiO Ts (some t) st = .ok (.bl (Ts.any (subT t))) st := rfl
theorem q_isc (c : Nat) (a : M D) : mIsC c a ρ st = (a ρ st).bind (kIsC c) := by
  unfold mIsC kIsC
  congr 1; funext d st1
  cases insAt st1 d <;> rfl
theorem q_isc1 (c : Nat) (d : D) : kIsC c d st = kIsCO c (insAt st d) st := rfl
theorem q_iscO (c : Nat) (fs : List (Str × D)) : kIsCO c (some (c, fs)) st = .ok (.bl true) st := if_pos rfl
theorem q_call (k : Nat) (f : Fn) (a : M (List D)) : mCall k f a ρ st = (a ρ st).bind (kCall k f) := rfl
theorem q_call1 (k : Nat) (f : Fn) (ds : List D) : kCall k f ds st = if ds.length = k then f ds st else .no := rfl
theorem q_attr (fld : Nat → List Str) (f : Str) (o : M D) : mAttr fld f o ρ st = (o ρ st).bind (kAttr fld f) := by
  unfold mAttr kAttr
  congr 1; funext d st1
  cases insAt st1 d with
  | none => rfl
  | some p =>
    obtain ⟨c, fs⟩ := p
    show (if f ∈ fld c then _ else _) = if f ∈ fld c then _ else _
    cases fs.lookup f <;> rfl
theorem q_attr1 (fld : Nat → List Str) (f : Str) (d : D) : kAttr fld f d st = kAttrO fld f (insAt st d) st := rfl
theorem q_attrO (fld : Nat → List Str) (f : Str) (c : Nat) (fs : List (Str × D)) : kAttrO fld f (some (c, fs)) st = if f ∈ fld c then kAttrO2 (fs.lookup f) st else .no := rfl
theorem q_attrO2 (x : D) : kAttrO2 (some x) st = .ok x st := rfl
theorem q_mth (mth : Nat → Str → Option (Nat × Nat)) (call : Nat → Fn) (m : Str) (o : M D) (a : M (List D)) : mMth mth call m o a ρ st = (o ρ st).bind (kMth mth call m a ρ) := by
  unfold mMth kMth
  congr 1; funext d st1
  cases insAt st1 d with
  | none => rfl
  | some p =>
    obtain ⟨c, fs⟩ := p
    show _ = kMth2 call a ρ d (mth c m) (fs.lookup m) st1
    dsimp only
    cases mth c m with
    | none => rfl
    | some q =>
      cases fs.lookup m <;> rfl
theorem q_mth1 (mth : Nat → Str → Option (Nat × Nat)) (call : Nat → Fn) (m : Str) (a : M (List D)) (d : D) : kMth mth call m a ρ d st = kMthO mth call m a ρ d (insAt st d) st := rfl
theorem q_mthO (mth : Nat → Str → Option (Nat × Nat)) (call : Nat → Fn) (m : Str) (a : M (List D)) (d : D) (c : Nat) (fs : List (Str × D)) : kMthO mth call m a ρ d (some (c, fs)) st = kMth2 call a ρ d (mth c m) (fs.lookup m) st := rfl
theorem q_mth2 (call : Nat → Fn) (a : M (List D)) (d : D) (i n : Nat) : kMth2 call a ρ d (some (i, n)) none st = (a ρ st).bind (kMth3 call i n d) := rfl
theorem q_mth3 (call : Nat → Fn) (i n : Nat) (d : D) (ds : List D) : kMth3 call i n d ds st = if ds.length = n then call i (d :: ds) st else .no := rfl
theorem q_make (c n : Nat) (f : Fn) (a : M (List D)) : mMake c n f a ρ st = (a ρ st).bind (kMake c n f) := rfl
theorem q_make1 (c n : Nat) (f : Fn) (ds : List D) : kMake c n f ds st = if ds.length = n then (f (.ref st.length :: ds) (st ++ [.ins c []])).bind (isNonO (.ref st.length)) else .no := rfl
theorem q_asg (e : M D) (t : Tgt) : sAsg e t ρ st = (e ρ st).toS ρ (kAsg t ρ) := by
  unfold sAsg kAsg
  congr 1; funext d st1
  cases bindT t d ρ <;> rfl
theorem q_asg1 (t : Tgt) (d : D) : kAsg t ρ d st = kAsgO (bindT t d ρ) st := rfl
theorem q_asgO (ρ : Rho) : kAsgO (some ρ) st = .nx ρ st := rfl
theorem q_expr (e : M D) : sExpr e ρ st = (e ρ st).toS ρ (kExpr ρ) := rfl
theorem q_expr1 (d : D) : kExpr ρ d st = .nx ρ st := rfl
theorem q_ret (e : M D) : sRet e ρ st = (e ρ st).toS ρ kRet := rfl
theorem q_ret1 (d : D) : kRet d st = .rt d st := rfl
theorem q_if (c : M Bool) (a b : MS) : sIf c a b ρ st = (c ρ st).toS ρ (kIf a b ρ) := by
  unfold sIf
  congr 1; funext x st1; cases x <;> rfl
theorem q_ift (a b : MS) : kIf a b ρ true st = a ρ st := rfl
theorem q_iff (a b : MS) : kIf a b ρ false st = b ρ st := rfl
theorem q_atr (fld : Nat → List Str) (f : Str) (v o : M D) : sAtr fld f v o ρ st = (v ρ st).toS ρ (kAtr fld f o ρ) := rfl
theorem q_atr1 (fld : Nat → List Str) (f : Str) (o : M D) (x : D) : kAtr fld f o ρ x st = (o ρ st).toS ρ (kAtr2 fld f ρ x) := rfl
theorem q_atr2 (fld : Nat → List Str) (f : Str) (x d : D) : kAtr2 fld f ρ x d st = setAt fld f x st ρ d := rfl
theorem q_aa (fld : Nat → List Str) (f : Str) (o v : M D) : sAtrAdd fld f o v ρ st = (o ρ st).toS ρ (kAa fld f v ρ) := by
  unfold sAtrAdd kAa
  congr 1; funext d st1
  cases insAt st1 d with
  | none => rfl
  | some p =>
    obtain ⟨c, fs⟩ := p
    show (if f ∈ fld c then _ else _) = if f ∈ fld c then _ else _
    congr 1
    cases fs.lookup f with
    | none => rfl
    | some x =>
      cases x with
      | int i =>
        show (v ρ st1).toS ρ _ = (v ρ st1).toS ρ (kAa3 fld f ρ d c i)
        congr 1; funext y st2
        cases y <;> rfl
      | _ => rfl
theorem q_aa1 (fld : Nat → List Str) (f : Str) (v : M D) (d : D) : kAa fld f v ρ d st = kAa1 fld f v ρ d (insAt st d) st := rfl
theorem q_aa2 (fld : Nat → List Str) (f : Str) (v : M D) (d : D) (c : Nat) (fs : List (Str × D)) : kAa1 fld f v ρ d (some (c, fs)) st = if f ∈ fld c then kAa2 fld f v ρ d c (fs.lookup f) st else .no := rfl
theorem q_aa3 (fld : Nat → List Str) (f : Str) (v : M D) (d : D) (c : Nat) (i : Int) : kAa2 fld f v ρ d c (some (.int i)) st = (v ρ st).toS ρ (kAa3 fld f ρ d c i) := rfl
theorem q_aa4 (fld : Nat → List Str) (f : Str) (d : D) (c : Nat) (i j : Int) : kAa3 fld f ρ d c i (.int j) st = if (insAt st d).map (·.1) = some c then setAt fld f (.int (i + j)) st ρ d else .no := rfl
theorem q_step (m : Bool) (a : M D) (k : M (Option Int)) : mStep m a k ρ st = (a ρ st).bind (kStep m k ρ) := rfl
theorem q_step1 (m : Bool) (k : M (Option Int)) (x : D) : kStep m k ρ x st = (k ρ st).bind (kStep2 m x) := rfl
theorem q_step2 (m : Bool) (x : D) (j : Option Int) : kStep2 m x j st = dStep m x j st := rfl
theorem q_lc (m : Bool) (it : M Src) (t : Tgt) (vs : List Nat) (c : M Bool) (e : M D) : mLc m it t vs c e ρ st = (it ρ st).bind (kLc m (wipeD ρ vs) t c e) := rfl
theorem q_lc1 (m : Bool) (t : Tgt) (c : M Bool) (e : M D) (s : Src) : kLc m ρ t c e s st = (lcGo s.g ρ t c e s.ds st).bind (mkL m) := rfl
theorem q_for (it : M Src) (t : Tgt) (b : MS) : sFor it t b ρ st = (it ρ st).toS ρ (kFor t b ρ) := rfl
theorem q_for1 (t : Tgt) (b : MS) (s : Src) : kFor t b ρ s st = forGo s.g t b s.ds ρ st := rfl
def kWhile (c : M Bool) (b : MS) (k : Nat) (ρ : Rho) : Bool → Store → OS
  | true, st => (b ρ st).turn (sWhile c b k)
  | false, st => .nx ρ st
theorem q_while (c : M Bool) (b : MS) (k : Nat) : sWhile c b (k + 1) ρ st = (c ρ st).toS ρ (kWhile c b k ρ) := by
  show (c ρ st).toS ρ _ = _
  congr 1; funext x st1; cases x <;> rfl
theorem q_whilet (c : M Bool) (b : MS) (k : Nat) : kWhile c b k ρ true st = (b ρ st).turn (sWhile c b k) := rfl
theorem q_whilef (c : M Bool) (b : MS) (k : Nat) : kWhile c b k ρ false st = .nx ρ st := rfl
theorem insAt_ref (i : Nat) : insAt st (.ref i) = kInsO st[i]? := by
  show (match st[i]? with | some (.ins c fs) => some (c, fs) | _ => none) = _
  cases st[i]? with
  | none => rfl
  | some o => cases o <;> rfl
theorem q_insO (c : Nat) (fs : List (Str × D)) : kInsO (some (.ins c fs)) = some (c, fs) := rfl
theorem setAt_ref (fld : Nat → List Str) (f : Str) (x : D) (i : Nat) : setAt fld f x st ρ (.ref i) = kSetO fld f x st ρ i st[i]? := by
  show (match st[i]? with
    | some (.ins c fs) => if f ∈ fld c ∧ fs.length < 800 then OS.nx ρ (st.set i (.ins c (putD f x fs))) else OS.no
    | _ => OS.no) = _
  cases st[i]? with
  | none => rfl
  | some o => cases o <;> rfl
theorem q_setO (fld : Nat → List Str) (f : Str) (x : D) (i c : Nat) (fs : List (Str × D)) : kSetO fld f x st ρ i (some (.ins c fs)) = if f ∈ fld c ∧ fs.length < 800 then .nx ρ (st.set i (.ins c (putD f x fs))) else .no := rfl
theorem r_retN : sRetN ρ st = .rt .non st := rfl
theorem r_break : sBreak ρ st = .bk ρ st := rfl
theorem r_cont : sCont ρ st = .ct ρ st := rfl
theorem isNonO_non (x : D) : isNonO x .non st = .ok x st := rfl
/-! ### stores -/
theorem get_at (l : List Ob) : (st ++ l)[st.length]? = l[0]? := by rw [List.getElem?_append_right (Nat.le_refl _), Nat.sub_self]
theorem get_at_add (l : List Ob) (k : Nat) : (st ++ l)[st.length + k]? = l[k]? := by rw [List.getElem?_append_right (Nat.le_add_right _ _), Nat.add_sub_cancel_left]
theorem get_old {l : List Ob} {i : Nat} (h : i < st.length) : (st ++ l)[i]? = st[i]? := List.getElem?_append_left h
theorem set_at (l : List Ob) (o : Ob) : (st ++ l).set st.length o = st ++ l.set 0 o := by rw [List.set_append_right _ _ (Nat.le_refl _), Nat.sub_self]
theorem set_at_add (l : List Ob) (k : Nat) (o : Ob) : (st ++ l).set (st.length + k) o = st ++ l.set k o := by rw [List.set_append_right _ _ (Nat.le_add_right _ _), Nat.add_sub_cancel_left]
theorem set_old {l : List Ob} {i : Nat} {o : Ob} (h : i < st.length) : (st ++ l).set i o = st.set i o ++ l := List.set_append_left _ _ h
/-! ### data -/
theorem lstOf_ref (i : Nat) : lstOf st (.ref i) = match st[i]? with
    | some (.lst xs) => some xs
    | _ => none := rfl
theorem lstOf_lst (xs : List D) : lstOf st (.lst xs) = some xs := rfl
theorem lstOf_frz (xs : List D) : lstOf st (.frz xs) = none := rfl
theorem seqOf_tup (xs : List D) : seqOf st (.tup xs) = some xs := rfl
theorem seqOf_frz (xs : List D) : seqOf st (.frz xs) = some xs := rfl
theorem seqOf_lst (xs : List D) : seqOf st (.lst xs) = some xs := rfl
theorem seqOf_ref (i : Nat) : seqOf st (.ref i) = lstOf st (.ref i) := rfl
theorem listOf_frz (xs : List D) : Mi.listOf st (.frz xs) = some xs := rfl
theorem listOf_lst (xs : List D) : Mi.listOf st (.lst xs) = some xs := rfl
theorem listOf_ref (i : Nat) : Mi.listOf st (.ref i) = lstOf st (.ref i) := rfl
theorem listG_frz (xs : List D) : listG st (.frz xs) = some ⟨xs, []⟩ := rfl
theorem listG_lst (xs : List D) : listG st (.lst xs) = some ⟨xs, []⟩ := rfl
theorem listG_ref (i : Nat) : listG st (.ref i) = match st[i]? with
    | some (.lst xs) => some ⟨xs, [(i, .lst xs)]⟩
    | _ => none := rfl
theorem items_lst (xs : List D) : itemsD st (.lst xs) = some ⟨xs, []⟩ := rfl
theorem items_frz (xs : List D) : itemsD st (.frz xs) = some ⟨xs, []⟩ := rfl
theorem items_tup (xs : List D) : itemsD st (.tup xs) = some ⟨xs, []⟩ := rfl
theorem items_str (s : Str) : itemsD st (.str s) = some ⟨s.cps.toList.map fun c => D.str ⟨#[c]⟩, []⟩ := rfl
theorem items_ref (i : Nat) : itemsD st (.ref i) = listG st (.ref i) := rfl
theorem dctOf_ref (i : Nat) : dctOf st (.ref i) = match st[i]? with
    | some (.dct xs) => some xs
    | _ => none := rfl
theorem rdOf_ref (i : Nat) : rdOf st (.ref i) = match st[i]? with
    | some (.dct xs) => some xs
    | some (.lck xs) => some xs
    | _ => none := rfl
theorem rdOf_lst (xs : List D) : rdOf st (.lst xs) = none := rfl
theorem rdOf_tup (xs : List D) : rdOf st (.tup xs) = none := rfl
theorem rdOf_frz (xs : List D) : rdOf st (.frz xs) = none := rfl
theorem rdOf_str (xs : Str) : rdOf st (.str xs) = none := rfl
theorem rdOf_dct (xs : List (Key × D)) : rdOf st (.dct xs) = some xs := rfl
theorem dctOf_lst (xs : List D) : dctOf st (.lst xs) = none := rfl
theorem dctOf_tup (xs : List D) : dctOf st (.tup xs) = none := rfl
theorem dctOf_frz (xs : List D) : dctOf st (.frz xs) = none := rfl
theorem dctOf_str (xs : Str) : dctOf st (.str xs) = none := rfl
theorem dctOf_dct (xs : List (Key × D)) : dctOf st (.dct xs) = some xs := rfl
theorem len_lst (xs : List D) : dLen [.lst xs] st = .ok (.int xs.length) st := rfl
theorem len_tup (xs : List D) : dLen [.tup xs] st = .ok (.int xs.length) st := rfl
theorem len_frz (xs : List D) : dLen [.frz xs] st = .ok (.int xs.length) st := rfl
theorem len_ref (i : Nat) : dLen [.ref i] st = match dctOf st (.ref i) with
    | some kvs => .ok (.int kvs.length) st
    | none => match seqOf st (.ref i) with
      | some xs => .ok (.int xs.length) st
      | none => .no := rfl
theorem list_any (m : Bool) (d : D) : dList m [d] st = match seqOf st d with
    | some xs => mkL m xs st
    | none => match dctOf st d with
      | some kvs => mkL m (kvs.map fun kv => unK kv.1) st
      | none => .no := rfl
theorem tuple_tup (xs : List D) : dTuple [.tup xs] st = .ok (.tup xs) st := rfl
theorem tuple_lst (xs : List D) : dTuple [.lst xs] st = mkT xs st := rfl
theorem tuple_frz (xs : List D) : dTuple [.frz xs] st = mkT xs st := rfl
theorem tuple_ref (i : Nat) : dTuple [.ref i] st = match seqOf st (.ref i) with
    | some xs => mkT xs st
    | none => .no := rfl
theorem int_int (i : Int) : dInt [.int i] st = .ok (.int i) st := rfl
theorem int_bl (b : Bool) : dInt [.bl b] st = .ok (.int (if b then 1 else 0)) st := rfl
theorem mkL_t {xs : List D} (h : xs.length ≤ 16777216) : mkL true xs st = .ok (.ref st.length) (st ++ [.lst xs]) := by
  unfold mkL
  rw [if_pos (show xs.length ≤ sizeLine from h), if_pos rfl]
theorem mkL_f {xs : List D} (h : xs.length ≤ 16777216) : mkL false xs st = .ok (.lst xs) st := by
  unfold mkL
  rw [if_pos (show xs.length ≤ sizeLine from h), if_neg Bool.false_ne_true]
theorem mkT_ok {xs : List D} (h : xs.length ≤ 16777216) : mkT xs st = .ok (.tup xs) st := by
  unfold mkT
  rw [if_pos (show xs.length ≤ sizeLine from h)]
theorem append_ref (i : Nat) (d : D) : dAppend (.ref i) [d] st = match st[i]? with
    | some (.lst l) => if l.length < sizeLine then .ok .non (st.set i (.lst (l ++ [d]))) else .no
    | _ => .no := rfl
theorem clear_ref (i : Nat) : dClear (.ref i) [] st = match st[i]? with
    | some (.lst l) => .ok .non (st.set i (.lst []))
    | _ => .no := rfl
theorem if_sz {γ : Sort _} {n : Nat} {a b : γ} (h : n < 16777216) : (if n < sizeLine then a else b) = a := if_pos h
theorem tyD_ref (T : String) (i : Nat) : tyD T (.ref i) st = ((T == "list" && (Mi.listOf st (.ref i)).isSome) || (T == "dict" && (dctOf st (.ref i)).isSome)) := rfl
theorem tyD_str (T : String) (s : Str) : tyD T (.str s) st = (T == "str") := rfl
theorem tyD_lst (T : String) (xs : List D) : tyD T (.lst xs) st = ((T == "list" && true) || (T == "dict" && false)) := rfl
theorem tyOf_ref (i : Nat) : tyOfD (.ref i) st = match st[i]? with
    | some (.lst _) => some "list"
    | some (.dct _) => some "dict"
    | _ => none := rfl
theorem ty_frz (s : List D) : tyOfD (.frz s) st = some "list" := rfl
theorem ty_dct (s : List (Key × D)) : tyOfD (.dct s) st = some "dict" := rfl
theorem add_lr (m : Bool) (xs : List D) (i : Nat) : dAdd m (.lst xs) (.ref i) st = match lstOf st (.lst xs), lstOf st (.ref i) with
    | some xs, some ys => mkL m (xs ++ ys) st
    | _, _ => .no := rfl
theorem add_rl (m : Bool) (xs : List D) (i : Nat) : dAdd m (.ref i) (.lst xs) st = match lstOf st (.ref i), lstOf st (.lst xs) with
    | some xs, some ys => mkL m (xs ++ ys) st
    | _, _ => .no := rfl
theorem add_rr (m : Bool) (i j : Nat) : dAdd m (.ref i) (.ref j) st = match lstOf st (.ref i), lstOf st (.ref j) with
    | some xs, some ys => mkL m (xs ++ ys) st
    | _, _ => .no := rfl
theorem add_ll (m : Bool) (xs ys : List D) : dAdd m (.lst xs) (.lst ys) st = mkL m (xs ++ ys) st := rfl
theorem add_tt (m : Bool) (xs ys : List D) : dAdd m (.tup xs) (.tup ys) st = mkT (xs ++ ys) st := rfl
theorem add_ss {m : Bool} {x y : Str} (h : x.length + y.length ≤ 16777216) : dAdd m (.str x) (.str y) st = .ok (.str (x ++ y)) st := by
  unfold dAdd
  dsimp only
  rw [if_pos (show x.length + y.length ≤ sizeLine from h)]
theorem mod_ii {i j : Int} (h : 0 < j) : dMod (.int i) (.int j) st = .ok (.int (i % j)) st := by
  unfold dMod
  dsimp only
  rw [if_pos h]
theorem div_ii {i j : Int} (h : 0 < j ∧ j < 1073741824) : dDiv (.int i) (.int j) st = .ok (.int (i / j)) st := by
  unfold dDiv
  dsimp only
  rw [if_pos h]
theorem mul_ii {m : Bool} {i j : Int} (h : -18446744073709551616 < i ∧ i < 18446744073709551616) : dMul m (.int i) (.int j) st = .ok (.int (i * j)) st := by
  unfold dMul
  dsimp only
  rw [if_pos (.inl ⟨by omega, by omega⟩)]
theorem mul_lst {m : Bool} {xs : List D} {k : Int} (h : -1000 ≤ k ∧ k ≤ 1000) (h2 : xs.length ≤ 1000) : dMul m (.lst xs) (.int k) st = mkL m (List.replicate k.toNat xs).flatten st := by
  show (if -1000 ≤ k ∧ k ≤ 1000 ∧ xs.length * k.toNat ≤ sizeLine then mkL m (List.replicate k.toNat xs).flatten st else .no) = _
  have h3 : k.toNat ≤ 1000 := by omega
  have h4 := Nat.mul_le_mul h2 h3
  have h5 : sizeLine = 16777216 := rfl
  rw [if_pos ⟨h.1, h.2, by omega⟩]
theorem neg_i (i : Int) : dNeg (.int i) st = .ok (.int (-i)) st := rfl
theorem lt_ii (i j : Int) : dLt (.int i) (.int j) st = .ok (.bl (decide (i < j))) st := rfl
theorem gt_ii (i j : Int) : dGt (.int i) (.int j) st = .ok (.bl (decide (j < i))) st := rfl
theorem ge_ii (i j : Int) : dGe (.int i) (.int j) st = .ok (.bl (decide (j ≤ i))) st := rfl
theorem is_non (neg : Bool) (a : D) : dIs neg a .non st = .ok (.bl (if neg then !isNon a else isNon a)) st := rfl
theorem isNon_non : isNon .non = true := rfl
theorem isNon_str (s : Str) : isNon (.str s) = false := rfl
theorem isNon_lst (s : List D) : isNon (.lst s) = false := rfl
theorem isNon_tup (s : List D) : isNon (.tup s) = false := rfl
theorem isNon_ref (s : Nat) : isNon (.ref s) = false := rfl
theorem isNon_int (s : Int) : isNon (.int s) = false := rfl
theorem atI_get {γ : Type} {xs : List γ} {i : Int} (d : γ) (h0 : 0 ≤ i) (h1 : i < xs.length) : atI xs i = some (xs.getD i.toNat d) := by
  have e : ixN xs.length i = some i.toNat := by
    unfold ixN
    rw [if_pos h0, if_pos h1]
  have hl : i.toNat < xs.length := by omega
  unfold atI
  rw [e]
  show xs[i.toNat]? = _
  rw [List.getD_eq_getElem?_getD, List.getElem?_eq_getElem hl]
  rfl
theorem ix_lst {xs : List D} {i : Int} (h0 : 0 ≤ i) (h1 : i < xs.length) : dIx (.lst xs) (.int i) st = .ok (xs.getD i.toNat .non) st := by
  show (match atI xs i with
        | some c => O.ok c st
        | none => .no) = _
  rw [atI_get .non h0 h1]
theorem ix_frz {xs : List D} {i : Int} (h0 : 0 ≤ i) (h1 : i < xs.length) : dIx (.frz xs) (.int i) st = .ok (xs.getD i.toNat .non) st := by
  show (match atI xs i with
        | some c => O.ok c st
        | none => .no) = _
  rw [atI_get .non h0 h1]
theorem ix_tup {xs : List D} {i : Int} (h0 : 0 ≤ i) (h1 : i < xs.length) : dIx (.tup xs) (.int i) st = .ok (xs.getD i.toNat .non) st := by
  show (match atI xs i with
        | some c => O.ok c st
        | none => .no) = _
  rw [atI_get .non h0 h1]
theorem ix_ref {j : Nat} {xs : List D} {i : Int} (h : st[j]? = some (.lst xs)) (h0 : 0 ≤ i) (h1 : i < xs.length) : dIx (.ref j) (.int i) st = .ok (xs.getD i.toNat .non) st := by
  have e1 : rdOf st (.ref j) = none := by rw [rdOf_ref, h]
  have e2 : seqOf st (.ref j) = some xs := by rw [seqOf_ref, lstOf_ref, h]
  unfold dIx
  rw [e1]
  dsimp only
  rw [e2]
  dsimp only
  rw [atI_get .non h0 h1]
/-! ### texts -/
abbrev Ss (xs : List Str) : List D := xs.map D.str
theorem sq_strs {k : Nat} (ys : List Str) : sq ((Ss ys).map (deep (k + 1) st)) = some (Ss ys) := by
  induction ys with
  | nil => rfl
  | cons y r ih => show (sq ((r.map D.str).map (deep (k + 1) st))).map _ = _; rw [ih]; rfl
theorem fz_strs {k m : Nat} (ys : List Str) : sq ((Ss ys).map (fz (k + 1) m st)) = some (Ss ys) := by
  induction ys with
  | nil => rfl
  | cons y r ih => show (sq ((r.map D.str).map (fz (k + 1) m st))).map _ = _; rw [ih]; rfl
theorem deep_strs (ys : List Str) : deep 64 st (.lst (Ss ys)) = some (.lst (Ss ys)) := by
  show (sq ((Ss ys).map (deep 63 st))).map _ = _
  rw [sq_strs]; rfl
theorem any_strs (s : Str) : ∀ ys : List Str, ((Ss ys).any fun y => eqD y (.str s)) = decide (s ∈ ys)
  | [] => by simp
  | y :: r => by
    show ((D.str y :: Ss r).any fun y => eqD y (D.str s)) = _
    rw [List.any_cons, any_strs s r, eqD_str]
    by_cases h : y = s
    · subst h; simp
    · have : ¬ s = y := fun e => h e.symm
      simp [h, this]
theorem in_tup (ng : Bool) (s : Str) (ys : List Str) : dIn ng (.str s) (.tup (Ss ys)) st = .ok (.bl (sgn ng (decide (s ∈ ys)))) st := by
  show (if flatD (.str s) = true ∧ (Ss ys).all flatD = true then O.ok (D.bl (sgn ng ((Ss ys).any fun y => eqD y (.str s)))) st else .no) = _
  rw [if_pos ⟨rfl, by rw [List.all_map]; exact List.all_eq_true.mpr fun _ _ => rfl⟩, any_strs]
theorem in_lst (ng : Bool) (s : Str) (ys : List Str) : dIn ng (.str s) (.lst (Ss ys)) st = .ok (.bl (sgn ng (decide (s ∈ ys)))) st := by
  show (match deep 64 st (.str s), deep 64 st (.lst (Ss ys)) with
      | some x, some (.lst ys) => O.ok (D.bl (sgn ng (ys.any fun y => eqD y x))) st
      | _, _ => .no) = _
  rw [deep_strs]
  show O.ok (D.bl (sgn ng ((Ss ys).any fun y => eqD y (.str s)))) st = _
  rw [any_strs]
theorem deep_ref {i : Nat} {ys : List Str} (h : st[i]? = some (.lst (Ss ys))) : deep 64 st (.ref i) = some (.lst (Ss ys)) := by
  show (match st[i]? with
    | some (.lst xs) => (sq (xs.map (deep 63 st))).map D.lst
    | _ => none) = _
  rw [h]
  show (sq ((Ss ys).map (deep 63 st))).map D.lst = _
  rw [sq_strs]; rfl
theorem in_ref {i : Nat} {ys : List Str} (h : st[i]? = some (.lst (Ss ys))) (ng : Bool) (s : Str) : dIn ng (.str s) (.ref i) st = .ok (.bl (sgn ng (decide (s ∈ ys)))) st := by
  have hd : rdOf st (.ref i) = none := by rw [rdOf_ref, h]
  show (match rdOf st (.ref i) with
    | some kvs => match keyD (.str s) with
      | some k => O.ok (D.bl (sgn ng (valD kvs k).isSome)) st
      | none => .no
    | none => match deep 64 st (.str s), deep 64 st (.ref i) with
      | some x, some (.lst ys) => O.ok (D.bl (sgn ng (ys.any fun y => eqD y x))) st
      | _, _ => .no) = _
  rw [hd, deep_ref h]
  show O.ok (D.bl (sgn ng ((Ss ys).any fun y => eqD y (.str s)))) st = _
  rw [any_strs]
theorem strsD_strs : ∀ xs : List Str, strsD (Ss xs) = some xs
  | [] => rfl
  | x :: r => by show (strsD (Ss r)).map _ = _; rw [strsD_strs r]; rfl
theorem getD_strs {xs : List Str} {k : Nat} (h : k < xs.length) : (Ss xs).getD k .non = .str (xs.getD k "") := by
  simp [List.getD_eq_getElem?_getD, h]
theorem boolsD_map {γ : Type} (f : γ → Bool) : ∀ xs : List γ, boolsD (xs.map fun x => D.bl (f x)) = some (xs.map f)
  | [] => rfl
  | x :: r => by show (boolsD (r.map _)).map _ = _; rw [boolsD_map f r]; rfl
end
end Mi
/-! Mi20: running dict displays, sorted, pop. -/
namespace Mi
open PySem L2
section
variable {α β : Type} {ρ : Rho} {st : Store}
def kPair3 (x y : D) (ps : List (D × D)) (st : Store) : O (List (D × D)) := .ok ((x, y) :: ps) st
def kPair2 (r : M (List (D × D))) (ρ : Rho) (x y : D) (st : Store) : O (List (D × D)) := (r ρ st).bind (kPair3 x y)
def kPair (v : M D) (r : M (List (D × D))) (ρ : Rho) (x : D) (st : Store) : O (List (D × D)) := (v ρ st).bind (kPair2 r ρ x)
def kDisp (m : Bool) (ps : List (D × D)) (st : Store) : O D := dispO m (keysD ps) st
theorem q_pnil : mPNil ρ st = .ok [] st := rfl
theorem q_pair (k v : M D) (r : M (List (D × D))) : mPair k v r ρ st = (k ρ st).bind (kPair v r ρ) := rfl
theorem q_pair1 (v : M D) (r : M (List (D × D))) (x : D) : kPair v r ρ x st = (v ρ st).bind (kPair2 r ρ x) := rfl
theorem q_pair2 (r : M (List (D × D))) (x y : D) : kPair2 r ρ x y st = (r ρ st).bind (kPair3 x y) := rfl
theorem q_pair3 (x y : D) (ps : List (D × D)) : kPair3 x y ps st = .ok ((x, y) :: ps) st := rfl
theorem q_disp (m : Bool) (a : M (List (D × D))) : mDisp m a ρ st = (a ρ st).bind (kDisp m) := rfl
theorem sort_lst {m : Bool} {ss : List Str} (h : ss.length < 64) : dSort m [.lst (Ss ss)] st = mkL m (Ss (sortS ss)) st := by
  show (match strsD (Ss ss) with
      | some ss => if ss.length < 64 then mkL m ((sortS ss).map D.str) st else .no
      | none => .no) = _
  rw [strsD_strs]
  dsimp only
  rw [if_pos h]
theorem sort_tup {m : Bool} {ss : List Str} (h : ss.length < 64) : dSort m [.tup (Ss ss)] st = mkL m (Ss (sortS ss)) st := by
  show (match strsD (Ss ss) with
      | some ss => if ss.length < 64 then mkL m ((sortS ss).map D.str) st else .no
      | none => .no) = _
  rw [strsD_strs]
  dsimp only
  rw [if_pos h]
theorem sortS_len (ss : List Str) : (sortS ss).length = ss.length := (sortS_perm ss).length_eq
theorem pop_ref {i : Nat} {l : List D} {k : Int} (h : st[i]? = some (.lst l)) (h0 : 0 ≤ k ∧ k < l.length) : dPop (.ref i) [.int k] st = .ok (l.getD k.toNat .non) (st.set i (.lst (l.eraseIdx k.toNat))) := by
  have hk : k.toNat < l.length := by omega
  show (match st[i]? with
    | some (.lst l) => if 0 ≤ k ∧ k < l.length then (match l[k.toNat]? with
      | some d => O.ok d (st.set i (.lst (l.eraseIdx k.toNat)))
      | none => .no) else .no
    | _ => .no) = _
  rw [h]
  dsimp only
  rw [if_pos h0, List.getElem?_eq_getElem hk]
  dsimp only
  rw [List.getD_eq_getElem?_getD, List.getElem?_eq_getElem hk]
  rfl
theorem mul_tup {m : Bool} {xs : List D} {k : Int} (h : 0 ≤ k ∧ k < 2) (hn : xs.isEmpty = false) (hl : xs.length ≤ 1000) : dMul m (.tup xs) (.int k) st = .ok (.tup (if k = 1 then xs else [])) st := by
  show (if xs.isEmpty = false ∧ xs.length ≤ 1000 ∧ -1000 ≤ k ∧ k ≤ 1000 then (if k ≤ 0 then mkT [] st else if k = 1 then .ok (.tup xs) st else mkT (List.replicate k.toNat xs).flatten st) else .no) = _
  rw [if_pos ⟨hn, hl, by omega, by omega⟩]
  by_cases e : k = 1
  · rw [if_neg (by omega), if_pos e, if_pos e]
  · rw [if_pos (by omega), if_neg e]
    rfl
theorem dix_str {kvs : List (Key × D)} {s : Str} {d : D} (h : valD kvs (.inr s) = some d) : dIx (.dct kvs) (.str s) st = .ok d st := by
  show (match valD kvs (.inr s) with
    | some d => O.ok d st
    | none => .no) = _
  rw [h]
end
end Mi
/-! Mi21: running by rewriting: live dicts. -/
namespace Mi
open PySem L2
variable {ρ : Rho} {st : Store}
def kSto2 (ρ : Rho) (x d k : D) (st : Store) : OS := stoAt x k st ρ d
def kSto1 (i : M D) (ρ : Rho) (x d : D) (st : Store) : OS := (i ρ st).toS ρ (kSto2 ρ x d)
def kSto (o i : M D) (ρ : Rho) (x : D) (st : Store) : OS := (o ρ st).toS ρ (kSto1 i ρ x)
theorem q_sto (v o i : M D) : sSto v o i ρ st = (v ρ st).toS ρ (kSto o i ρ) := rfl
theorem q_sto1 (o i : M D) (x : D) : kSto o i ρ x st = (o ρ st).toS ρ (kSto1 i ρ x) := rfl
theorem q_sto2 (i : M D) (x d : D) : kSto1 i ρ x d st = (i ρ st).toS ρ (kSto2 ρ x d) := rfl
theorem q_sto3 (x d k : D) : kSto2 ρ x d k st = stoAt x k st ρ d := rfl
theorem sto_str {i : Nat} {kvs : List (Key × D)} {x : D} {s : Str} (h : st[i]? = some (.dct kvs)) (hl : kvs.length < 1000000) : stoAt x (.str s) st ρ (.ref i) = .nx ρ (st.set i (.dct (putKD kvs (.inr s) x))) := by
  show (match st[i]?, keyD (.str s) with
    | some (.dct kvs), some k => if kvs.length < 1000000 then OS.nx ρ (st.set i (.dct (putKD kvs k x))) else .no
    | _, _ => .no) = _
  rw [h]
  show (if kvs.length < 1000000 then OS.nx ρ (st.set i (.dct (putKD kvs (.inr s) x))) else .no) = _
  rw [if_pos hl]
theorem dct_ref {i : Nat} {kvs : List (Key × D)} (h : st[i]? = some (.dct kvs)) : dctOf st (.ref i) = some kvs := by
  show (match st[i]? with
    | some (.dct xs) => some xs
    | _ => none) = _
  rw [h]
theorem get_of {d : D} {kvs : List (Key × D)} {s : Str} (h : dctOf st d = some kvs) : dGet d [.str s] st = .ok ((valD kvs (.inr s)).getD .non) st := by
  unfold dGet
  rw [h]
  rfl
theorem get_of2 {d z : D} {kvs : List (Key × D)} {s : Str} (h : dctOf st d = some kvs) : dGet d [.str s, z] st = .ok ((valD kvs (.inr s)).getD z) st := by
  unfold dGet
  rw [h]
  rfl
theorem rd_ref {i : Nat} {kvs : List (Key × D)} (h : st[i]? = some (.dct kvs)) : rdOf st (.ref i) = some kvs := by
  show (match st[i]? with
    | some (.dct xs) => some xs
    | some (.lck xs) => some xs
    | _ => none) = _
  rw [h]
theorem rd_lck {i : Nat} {kvs : List (Key × D)} (h : st[i]? = some (.lck kvs)) : rdOf st (.ref i) = some kvs := by
  show (match st[i]? with
    | some (.dct xs) => some xs
    | some (.lck xs) => some xs
    | _ => none) = _
  rw [h]
theorem ix_of {d v : D} {kvs : List (Key × D)} {s : Str} (h : rdOf st d = some kvs) (hv : valD kvs (.inr s) = some v) : dIx d (.str s) st = .ok v st := by
  unfold dIx
  rw [h]
  show (match valD kvs (.inr s) with
    | some d => O.ok d st
    | none => .no) = _
  rw [hv]
theorem copy_of {m : Bool} {d : D} {kvs : List (Key × D)} (h : dctOf st d = some kvs) : dDict m [d] st = mkD m kvs st := by
  unfold dDict
  dsimp only
  rw [h]
theorem made_of {m : Bool} {l : List D} {kvs : List (Key × D)} (h : pairsD l = some kvs) : dDict m [.lst l] st = mkD m (mergeD [] kvs) st := by
  show (match pairsD l with
    | some kvs => mkD m (mergeD [] kvs) st
    | none => .no) = _
  rw [h]
end Mi
namespace K20
open PySem L2 Mi
/-! ### the text (printed by gen.py) -/
def top (i : Nat) : Stmt := PySem.Challenge.pw_worldtale_k20_conditions_and_effects.main.body.getD i (.Pass ⟨0, 0, 0, 0⟩)
abbrev s__wall : Stmt := top 0
abbrev s_holds_now : Stmt := top 6
abbrev s_holds_all : Stmt := top 7
abbrev s_move_now : Stmt := top 8
abbrev s_do_effects : Stmt := top 9
abbrev s__law_mixed : Stmt := top 16
abbrev s__law_thing : Stmt := top 17
abbrev s__law_tale_condition : Stmt := top 18
abbrev s__law_tale_effect : Stmt := top 19
abbrev s__law_rule : Stmt := top 20
abbrev s__law_tale : Stmt := top 21
abbrev s__law_made : Stmt := top 22
abbrev s__law_begin : Stmt := top 24
abbrev s__law_outer : Stmt := top 25
abbrev s__law_holds : Stmt := top 30
abbrev s__law_moved : Stmt := top 31
abbrev s__law_effects : Stmt := top 32
abbrev s__law_told_state : Stmt := top 33
abbrev s__law_conditions_right : Stmt := top 34
abbrev s_law : Stmt := top 35
abbrev s_M_State___init__ : Stmt := inClass (top 12) 0
abbrev s_M_State_told_world : Stmt := inClass (top 12) 1
abbrev s_M_State_all_things : Stmt := inClass (top 12) 2
abbrev s_M_State_has_trait : Stmt := inClass (top 12) 3
abbrev s_M_State_is_dark : Stmt := inClass (top 12) 4
abbrev s_M_State_doors_of : Stmt := inClass (top 12) 5
abbrev s_M_State_need_thing : Stmt := inClass (top 12) 6
abbrev s_M_State_here : Stmt := inClass (top 12) 7
abbrev s_M_State_turn : Stmt := inClass (top 12) 8
abbrev s_M_State_where : Stmt := inClass (top 12) 9
abbrev s_M_State_is_open : Stmt := inClass (top 12) 10
abbrev s_M_State_is_worn : Stmt := inClass (top 12) 11
abbrev s_M_State_number_of : Stmt := inClass (top 12) 12
abbrev s_M_State_holder_has : Stmt := inClass (top 12) 13
abbrev s_M_State_is_where : Stmt := inClass (top 12) 14
abbrev s_M_State_would_ring : Stmt := inClass (top 12) 15
abbrev s_M_State_move_thing : Stmt := inClass (top 12) 16
abbrev s_M_State_set_open : Stmt := inClass (top 12) 17
abbrev s_M_State_set_worn : Stmt := inClass (top 12) 18
abbrev s_M_State_set_number : Stmt := inClass (top 12) 19
abbrev s_M_State_go_to : Stmt := inClass (top 12) 20
abbrev s_M_State_next_turn : Stmt := inClass (top 12) 21
abbrev s_M_State_told : Stmt := inClass (top 12) 22
abbrev s_M_State_copied : Stmt := inClass (top 12) 23
abbrev s_M_World___init__ : Stmt := inClass (top 14) 0
abbrev s_M_World_told : Stmt := inClass (top 14) 1
abbrev i__wall : Nat := 0
abbrev i_holds_now : Nat := 1
abbrev i_holds_all : Nat := 2
abbrev i_move_now : Nat := 3
abbrev i_do_effects : Nat := 4
abbrev i__law_mixed : Nat := 5
abbrev i__law_thing : Nat := 6
abbrev i__law_tale_condition : Nat := 7
abbrev i__law_tale_effect : Nat := 8
abbrev i__law_rule : Nat := 9
abbrev i__law_tale : Nat := 10
abbrev i__law_made : Nat := 11
abbrev i__law_begin : Nat := 12
abbrev i__law_outer : Nat := 13
abbrev i__law_holds : Nat := 14
abbrev i__law_moved : Nat := 15
abbrev i__law_effects : Nat := 16
abbrev i__law_told_state : Nat := 17
abbrev i__law_conditions_right : Nat := 18
abbrev i_law : Nat := 19
abbrev i_M_State___init__ : Nat := 20
abbrev i_M_State_told_world : Nat := 21
abbrev i_M_State_all_things : Nat := 22
abbrev i_M_State_has_trait : Nat := 23
abbrev i_M_State_is_dark : Nat := 24
abbrev i_M_State_doors_of : Nat := 25
abbrev i_M_State_need_thing : Nat := 26
abbrev i_M_State_here : Nat := 27
abbrev i_M_State_turn : Nat := 28
abbrev i_M_State_where : Nat := 29
abbrev i_M_State_is_open : Nat := 30
abbrev i_M_State_is_worn : Nat := 31
abbrev i_M_State_number_of : Nat := 32
abbrev i_M_State_holder_has : Nat := 33
abbrev i_M_State_is_where : Nat := 34
abbrev i_M_State_would_ring : Nat := 35
abbrev i_M_State_move_thing : Nat := 36
abbrev i_M_State_set_open : Nat := 37
abbrev i_M_State_set_worn : Nat := 38
abbrev i_M_State_set_number : Nat := 39
abbrev i_M_State_go_to : Nat := 40
abbrev i_M_State_next_turn : Nat := 41
abbrev i_M_State_told : Nat := 42
abbrev i_M_State_copied : Nat := 43
abbrev i_M_World___init__ : Nat := 44
abbrev i_M_World_told : Nat := 45
def c_MOST_NUMBER : D := (.int 9)
def conT : List (Str × D) := [("MOST_NUMBER", c_MOST_NUMBER)]
def fnT : List (Str × Nat × Nat) := [("_wall", (0, 1)), ("holds_now", (1, 3)), ("holds_all", (2, 3)), ("move_now", (3, 3)), ("do_effects", (4, 3)), ("_law_mixed", (5, 2)), ("_law_thing", (6, 4)), ("_law_tale_condition", (7, 3)), ("_law_tale_effect", (8, 4)), ("_law_rule", (9, 3)), ("_law_tale", (10, 1)), ("_law_made", (11, 1)), ("_law_begin", (12, 1)), ("_law_outer", (13, 2)), ("_law_holds", (14, 2)), ("_law_moved", (15, 3)), ("_law_effects", (16, 2)), ("_law_told_state", (17, 3)), ("_law_conditions_right", (18, 4)), ("law", (19, 1))]
def clT : List (Str × Nat × Nat × Nat) := [("State", (0, 20, 1)), ("World", (1, 44, 8))]
def mthT : List ((Nat × Str) × (Nat × Nat)) := [((0, "told_world"), (21, 0)), ((0, "all_things"), (22, 0)), ((0, "has_trait"), (23, 2)), ((0, "is_dark"), (24, 1)), ((0, "doors_of"), (25, 1)), ((0, "need_thing"), (26, 1)), ((0, "here"), (27, 0)), ((0, "turn"), (28, 0)), ((0, "where"), (29, 1)), ((0, "is_open"), (30, 1)), ((0, "is_worn"), (31, 1)), ((0, "number_of"), (32, 1)), ((0, "holder_has"), (33, 2)), ((0, "is_where"), (34, 1)), ((0, "would_ring"), (35, 2)), ((0, "move_thing"), (36, 2)), ((0, "set_open"), (37, 2)), ((0, "set_worn"), (38, 2)), ((0, "set_number"), (39, 2)), ((0, "go_to"), (40, 1)), ((0, "next_turn"), (41, 0)), ((0, "told"), (42, 0)), ((0, "copied"), (43, 0)), ((1, "told"), (45, 0))]
def fldT : List (Nat × List Str) := [(0, ["tale", "rows", "rooms", "ways", "spot", "moment", "wheres", "lids", "dressed", "counts"]), (1, ["told_places", "told_things", "told_ways", "told_states", "told_rules", "told_everies", "told_scenes", "told_ends"])]
def mthF : Nat → Str → Option (Nat × Nat) := fun c m => mthT.lookup (c, m)
def fldF : Nat → List Str := fun c => (fldT.lookup c).getD []
def ownT : List Str := ["told_world", "all_things", "has_trait", "is_dark", "doors_of", "need_thing", "here", "turn", "where", "is_open", "is_worn", "number_of", "holder_has", "is_where", "would_ring", "move_thing", "set_open", "set_worn", "set_number", "go_to", "next_turn", "told", "copied"]
def nobT : List Str := ["len", "list", "tuple", "int", "str", "sum", "all", "isinstance", "range", "enumerate", "bool", "dict"]
def chgT : List (Nat × Nat) := [(35, 12), (53, 20), (58, 22), (60, 20), (61, 23), (62, 22), (238, 22), (243, 24), (251, 18), (255, 16), (262, 17), (283, 16), (287, 18), (288, 11), (288, 90), (288, 103), (290, 17), (334, 17), (366, 28)]
def lkT : List (Nat × Nat) := [(154, 43), (155, 41)]
def xcT : List (Str × Nat) := [("BadState", 0), ("OutOfPlace", 1)]
def xsT : List ((Nat × Nat) × Bool) := [((0, 0), true), ((0, 1), false), ((1, 0), false), ((1, 1), true)]
def xsF : Nat → Nat → Option Bool := fun i j => xsT.lookup (i, j)
def Gx : Gs := ⟨fun x => conT.lookup x, fun x => fnT.lookup x, nobT, fun l c => chgT.contains (l, c), fun x => clT.lookup x, mthF, fldF, ownT, fun l c => lkT.contains (l, c), fun x => xcT.lookup x, xsF⟩
def N__wall : List Str := ["k"]
def p__wall : List Str := ["k"]
def N_holds_now : List Str := ["world", "state", "condition", "is_not", "sort", "one", "other", "found"]
def p_holds_now : List Str := ["world", "state", "condition"]
def N_holds_all : List Str := ["world", "state", "conditions", "condition"]
def p_holds_all : List Str := ["world", "state", "conditions"]
def N_move_now : List Str := ["state", "thing", "where"]
def p_move_now : List Str := ["state", "thing", "where"]
def N_do_effects : List Str := ["world", "state", "effects", "lines", "effect"]
def p_do_effects : List Str := ["world", "state", "effects"]
def N__law_mixed : List Str := ["_law_cell", "_law_k"]
def p__law_mixed : List Str := ["_law_cell", "_law_k"]
def N__law_thing : List Str := ["_law_k", "_law_number", "_law_places", "_law_things", "_law_kinds", "_law_traits_here", "_law_name", "_law_boxes", "_law_one", "_law_stands", "_law_more", "_law_where"]
def p__law_thing : List Str := ["_law_k", "_law_number", "_law_places", "_law_things"]
def N__law_tale_condition : List Str := ["_law_number", "_law_places", "_law_things", "_law_plain", "_law_one", "_law_holders", "_law_is_not", "_law_more", "_law_sort", "_law_holder", "_law_link"]
def p__law_tale_condition : List Str := ["_law_number", "_law_places", "_law_things"]
def N__law_tale_effect : List Str := ["_law_number", "_law_places", "_law_things", "_law_book", "_law_plain", "_law_one", "_law_boxes", "_law_more", "_law_wheres", "_law_box"]
def p__law_tale_effect : List Str := ["_law_number", "_law_places", "_law_things", "_law_book"]
def N__law_rule : List Str := ["_law_number", "_law_places", "_law_things", "_law_book", "_law_verb", "_law_more", "_law_abouts", "_law_one", "_law_about", "_law_own", "_law_conditions", "_law_k", "_law_effects_here"]
def p__law_rule : List Str := ["_law_number", "_law_places", "_law_things"]
def N__law_tale : List Str := ["_law_script", "_law_whole", "_law_cells", "_law_rooms", "_law_things", "_law_k", "_law_doors", "_law_one", "_law_ways", "_law_door", "_law_used", "_law_way", "_law_rules", "_law_places", "_law_room"]
def p__law_tale : List Str := ["_law_script"]
def N__law_made : List Str := ["_law_lists", "_law_places", "_law_things", "_law_ways", "_law_states", "_law_rules", "_law_everies", "_law_scenes", "_law_ends"]
def p__law_made : List Str := ["_law_lists"]
def N__law_begin : List Str := ["_law_lists", "_law_lids", "_law_name", "_law_noun", "_law_ahead", "_law_where", "_law_traits_here", "_law_wheres", "_law_one"]
def p__law_begin : List Str := ["_law_lists"]
def N__law_outer : List Str := ["_law_own", "_law_thing_here", "_law_chain", "_law_where"]
def p__law_outer : List Str := ["_law_own", "_law_thing_here"]
def N__law_holds : List Str := ["_law_own", "_law_condition", "_law_is_not", "_law_sort", "_law_one", "_law_other", "_law_where"]
def p__law_holds : List Str := ["_law_own", "_law_condition"]
def N__law_moved : List Str := ["_law_own", "_law_thing_here", "_law_where", "_law_one"]
def p__law_moved : List Str := ["_law_own", "_law_thing_here", "_law_where"]
def N__law_effects : List Str := ["_law_own", "_law_effects_here", "_law_lines", "_law_effect"]
def p__law_effects : List Str := ["_law_own", "_law_effects_here"]
def N__law_told_state : List Str := ["_law_lists", "_law_own", "_law_turn", "_law_names", "_law_one", "_law_opened", "_law_worn", "_law_counts", "_law_row"]
def p__law_told_state : List Str := ["_law_lists", "_law_own", "_law_turn"]
def N__law_conditions_right : List Str := ["_law_world", "_law_state", "_law_own", "_law_conditions", "_law_due", "_law_one", "_law_found"]
def p__law_conditions_right : List Str := ["_law_world", "_law_state", "_law_own", "_law_conditions"]
def N_law : List Str := ["_law_script", "_law_lists", "_law_world", "_law_state", "_law_own", "_law_rooms", "_law_row", "_law_cell", "_law_number", "_law_book", "_law_effects_here", "_law_k", "_law_due", "_law_told", "_law_some"]
def p_law : List Str := ["_law_script"]
def N_M_State___init__ : List Str := ["self", "world", "told", "row", "lidded"]
def p_M_State___init__ : List Str := ["self", "world"]
def N_M_State_told_world : List Str := ["self"]
def p_M_State_told_world : List Str := ["self"]
def N_M_State_all_things : List Str := ["self"]
def p_M_State_all_things : List Str := ["self"]
def N_M_State_has_trait : List Str := ["self", "thing", "trait"]
def p_M_State_has_trait : List Str := ["self", "thing", "trait"]
def N_M_State_is_dark : List Str := ["self", "place"]
def p_M_State_is_dark : List Str := ["self", "place"]
def N_M_State_doors_of : List Str := ["self", "place"]
def p_M_State_doors_of : List Str := ["self", "place"]
def N_M_State_need_thing : List Str := ["self", "thing"]
def p_M_State_need_thing : List Str := ["self", "thing"]
def N_M_State_here : List Str := ["self"]
def p_M_State_here : List Str := ["self"]
def N_M_State_turn : List Str := ["self"]
def p_M_State_turn : List Str := ["self"]
def N_M_State_where : List Str := ["self", "thing"]
def p_M_State_where : List Str := ["self", "thing"]
def N_M_State_is_open : List Str := ["self", "thing"]
def p_M_State_is_open : List Str := ["self", "thing"]
def N_M_State_is_worn : List Str := ["self", "thing"]
def p_M_State_is_worn : List Str := ["self", "thing"]
def N_M_State_number_of : List Str := ["self", "name"]
def p_M_State_number_of : List Str := ["self", "name"]
def N_M_State_holder_has : List Str := ["self", "thing", "trait"]
def p_M_State_holder_has : List Str := ["self", "thing", "trait"]
def N_M_State_is_where : List Str := ["self", "where"]
def p_M_State_is_where : List Str := ["self", "where"]
def N_M_State_would_ring : List Str := ["self", "thing", "where"]
def p_M_State_would_ring : List Str := ["self", "thing", "where"]
def N_M_State_move_thing : List Str := ["self", "thing", "where"]
def p_M_State_move_thing : List Str := ["self", "thing", "where"]
def N_M_State_set_open : List Str := ["self", "thing", "truth"]
def p_M_State_set_open : List Str := ["self", "thing", "truth"]
def N_M_State_set_worn : List Str := ["self", "thing", "truth"]
def p_M_State_set_worn : List Str := ["self", "thing", "truth"]
def N_M_State_set_number : List Str := ["self", "name", "number"]
def p_M_State_set_number : List Str := ["self", "name", "number"]
def N_M_State_go_to : List Str := ["self", "place"]
def p_M_State_go_to : List Str := ["self", "place"]
def N_M_State_next_turn : List Str := ["self"]
def p_M_State_next_turn : List Str := ["self"]
def N_M_State_told : List Str := ["self", "opened", "thing", "worn"]
def p_M_State_told : List Str := ["self"]
def N_M_State_copied : List Str := ["self"]
def p_M_State_copied : List Str := ["self"]
def N_M_World___init__ : List Str := ["self", "places", "things", "ways", "states", "rules", "everies", "scenes", "ends"]
def p_M_World___init__ : List Str := ["self", "places", "things", "ways", "states", "rules", "everies", "scenes", "ends"]
def N_M_World_told : List Str := ["self", "first"]
def p_M_World_told : List Str := ["self"]
def Tx : List FE := [
  ⟨"_wall", "_wall", s__wall, N__wall, p__wall, true⟩,
  ⟨"holds_now", "holds_now", s_holds_now, N_holds_now, p_holds_now, true⟩,
  ⟨"holds_all", "holds_all", s_holds_all, N_holds_all, p_holds_all, true⟩,
  ⟨"move_now", "move_now", s_move_now, N_move_now, p_move_now, false⟩,
  ⟨"do_effects", "do_effects", s_do_effects, N_do_effects, p_do_effects, false⟩,
  ⟨"_law_mixed", "_law_mixed", s__law_mixed, N__law_mixed, p__law_mixed, true⟩,
  ⟨"_law_thing", "_law_thing", s__law_thing, N__law_thing, p__law_thing, true⟩,
  ⟨"_law_tale_condition", "_law_tale_condition", s__law_tale_condition, N__law_tale_condition, p__law_tale_condition, true⟩,
  ⟨"_law_tale_effect", "_law_tale_effect", s__law_tale_effect, N__law_tale_effect, p__law_tale_effect, true⟩,
  ⟨"_law_rule", "_law_rule", s__law_rule, N__law_rule, p__law_rule, true⟩,
  ⟨"_law_tale", "_law_tale", s__law_tale, N__law_tale, p__law_tale, true⟩,
  ⟨"_law_made", "_law_made", s__law_made, N__law_made, p__law_made, false⟩,
  ⟨"_law_begin", "_law_begin", s__law_begin, N__law_begin, p__law_begin, false⟩,
  ⟨"_law_outer", "_law_outer", s__law_outer, N__law_outer, p__law_outer, true⟩,
  ⟨"_law_holds", "_law_holds", s__law_holds, N__law_holds, p__law_holds, true⟩,
  ⟨"_law_moved", "_law_moved", s__law_moved, N__law_moved, p__law_moved, false⟩,
  ⟨"_law_effects", "_law_effects", s__law_effects, N__law_effects, p__law_effects, false⟩,
  ⟨"_law_told_state", "_law_told_state", s__law_told_state, N__law_told_state, p__law_told_state, true⟩,
  ⟨"_law_conditions_right", "_law_conditions_right", s__law_conditions_right, N__law_conditions_right, p__law_conditions_right, true⟩,
  ⟨"law", "law", s_law, N_law, p_law, true⟩,
  ⟨"__init__", "State.__init__", s_M_State___init__, N_M_State___init__, p_M_State___init__, false⟩,
  ⟨"told_world", "State.told_world", s_M_State_told_world, N_M_State_told_world, p_M_State_told_world, true⟩,
  ⟨"all_things", "State.all_things", s_M_State_all_things, N_M_State_all_things, p_M_State_all_things, true⟩,
  ⟨"has_trait", "State.has_trait", s_M_State_has_trait, N_M_State_has_trait, p_M_State_has_trait, true⟩,
  ⟨"is_dark", "State.is_dark", s_M_State_is_dark, N_M_State_is_dark, p_M_State_is_dark, true⟩,
  ⟨"doors_of", "State.doors_of", s_M_State_doors_of, N_M_State_doors_of, p_M_State_doors_of, true⟩,
  ⟨"need_thing", "State.need_thing", s_M_State_need_thing, N_M_State_need_thing, p_M_State_need_thing, true⟩,
  ⟨"here", "State.here", s_M_State_here, N_M_State_here, p_M_State_here, true⟩,
  ⟨"turn", "State.turn", s_M_State_turn, N_M_State_turn, p_M_State_turn, true⟩,
  ⟨"where", "State.where", s_M_State_where, N_M_State_where, p_M_State_where, true⟩,
  ⟨"is_open", "State.is_open", s_M_State_is_open, N_M_State_is_open, p_M_State_is_open, true⟩,
  ⟨"is_worn", "State.is_worn", s_M_State_is_worn, N_M_State_is_worn, p_M_State_is_worn, true⟩,
  ⟨"number_of", "State.number_of", s_M_State_number_of, N_M_State_number_of, p_M_State_number_of, true⟩,
  ⟨"holder_has", "State.holder_has", s_M_State_holder_has, N_M_State_holder_has, p_M_State_holder_has, true⟩,
  ⟨"is_where", "State.is_where", s_M_State_is_where, N_M_State_is_where, p_M_State_is_where, true⟩,
  ⟨"would_ring", "State.would_ring", s_M_State_would_ring, N_M_State_would_ring, p_M_State_would_ring, true⟩,
  ⟨"move_thing", "State.move_thing", s_M_State_move_thing, N_M_State_move_thing, p_M_State_move_thing, false⟩,
  ⟨"set_open", "State.set_open", s_M_State_set_open, N_M_State_set_open, p_M_State_set_open, true⟩,
  ⟨"set_worn", "State.set_worn", s_M_State_set_worn, N_M_State_set_worn, p_M_State_set_worn, true⟩,
  ⟨"set_number", "State.set_number", s_M_State_set_number, N_M_State_set_number, p_M_State_set_number, false⟩,
  ⟨"go_to", "State.go_to", s_M_State_go_to, N_M_State_go_to, p_M_State_go_to, true⟩,
  ⟨"next_turn", "State.next_turn", s_M_State_next_turn, N_M_State_next_turn, p_M_State_next_turn, true⟩,
  ⟨"told", "State.told", s_M_State_told, N_M_State_told, p_M_State_told, true⟩,
  ⟨"copied", "State.copied", s_M_State_copied, N_M_State_copied, p_M_State_copied, true⟩,
  ⟨"__init__", "World.__init__", s_M_World___init__, N_M_World___init__, p_M_World___init__, false⟩,
  ⟨"told", "World.told", s_M_World_told, N_M_World_told, p_M_World_told, true⟩]
/-- _wall -/
noncomputable def P__wall (call : Nat → Fn) : MS :=
    (sWhile (mTru (mC (.bl true))) sNil loopFuel)
theorem B__wall (call : Nat → Fn) : bodyOf Gx call s__wall N__wall = P__wall call := by kernel_rfl
/-- holds_now -/
noncomputable def P_holds_now (call : Nat → Fn) : MS :=
    (sSeq (sAsg (mVar 2) (.many [3, 4, 5, 6]))
    (sSeq (sIf (mTest (mBin (dEq false) (mVar 4) (mC (.str "is")))) (sAsg (mBin (dEq false) (mMth mthF call "number_of" (mVar 1) (mCons (mVar 5) mNil)) (mVar 6)) (.one 7)) (sIf (mTest (mBin (dEq false) (mVar 4) (mC (.str "you")))) (sAsg (mBin (dEq false) (mMth mthF call "here" (mVar 1) mNil) (mVar 5)) (.one 7)) (sIf (mTest (mBin (dEq false) (mVar 4) (mC (.str "open")))) (sAsg (mMth mthF call "is_open" (mVar 1) (mCons (mVar 5) mNil)) (.one 7)) (sIf (mTest (mBin (dEq false) (mVar 4) (mC (.str "worn")))) (sAsg (mMth mthF call "is_worn" (mVar 1) (mCons (mVar 5) mNil)) (.one 7)) (sIf (mTest (mBin (dIn false) (mVar 4) (mTup (mCons (mC (.str "at")) (mCons (mC (.str "in")) (mCons (mC (.str "on")) mNil)))))) (sAsg (mBin (dEq false) (mMth mthF call "where" (mVar 1) (mCons (mVar 5) mNil)) (mTup (mCons (mVar 4) (mCons (mVar 6) mNil)))) (.one 7)) (sAsg (mBin (dEq false) (mMth mthF call "where" (mVar 1) (mCons (mVar 5) mNil)) (mTup (mCons (mVar 4) mNil))) (.one 7)))))))
    (sRet (mBin (dEq true) (mVar 7) (mVar 3)))))
theorem B_holds_now (call : Nat → Fn) : bodyOf Gx call s_holds_now N_holds_now = P_holds_now call := by kernel_rfl
/-- holds_all -/
noncomputable def P_holds_all (call : Nat → Fn) : MS :=
    (sRet (mApp (dAllAny true) (mCons (mLc false (mItems (mVar 2)) (.one 3) [3] mYes (mCall 3 (call i_holds_now) (mCons (mVar 0) (mCons (mVar 1) (mCons (mVar 3) mNil))))) mNil)))
theorem B_holds_all (call : Nat → Fn) : bodyOf Gx call s_holds_all N_holds_all = P_holds_all call := by kernel_rfl
/-- move_now -/
noncomputable def P_move_now (call : Nat → Fn) : MS :=
    (sTry (fun i => xsF i 0) (sExpr (mMth mthF call "move_thing" (mVar 0) (mCons (mVar 1) (mCons (mVar 2) mNil)))) sRetN)
theorem B_move_now (call : Nat → Fn) : bodyOf Gx call s_move_now N_move_now = P_move_now call := by kernel_rfl
/-- do_effects -/
noncomputable def P_do_effects (call : Nat → Fn) : MS :=
    (sSeq (sAsg (mLst true mNil) (.one 3))
    (sSeq (sFor (mItems (mVar 2)) (.one 4) (sSeq (sIf (mTest (mBin (dEq false) (mBin dIx (mVar 4) (mC (.int 0))) (mC (.str "stop")))) (sRet (mTup (mCons (mVar 3) (mCons (mC (.bl true)) mNil)))) sNil)
    (sIf (mTest (mBin (dEq false) (mBin dIx (mVar 4) (mC (.int 0))) (mC (.str "say")))) (sExpr (mMeth "list" dAppend (mVar 3) (mCons (mBin dIx (mVar 4) (mC (.int 1))) mNil))) (sIf (mTest (mBin (dEq false) (mBin dIx (mVar 4) (mC (.int 0))) (mC (.str "set")))) (sExpr (mMth mthF call "set_number" (mVar 1) (mCons (mBin dIx (mVar 4) (mC (.int 1))) (mCons (mBin dIx (mVar 4) (mC (.int 2))) mNil)))) (sExpr (mCall 3 (call i_move_now) (mCons (mVar 1) (mCons (mBin dIx (mVar 4) (mC (.int 1))) (mCons (mBin dIx (mVar 4) (mC (.int 2))) mNil)))))))))
    (sRet (mTup (mCons (mVar 3) (mCons (mC (.bl false)) mNil))))))
theorem B_do_effects (call : Nat → Fn) : bodyOf Gx call s_do_effects N_do_effects = P_do_effects call := by kernel_rfl
/-- _law_mixed -/
noncomputable def P__law_mixed (call : Nat → Fn) : MS :=
    (sSeq (sAsg (mBin (dAdd false) (mBin (dAdd false) (mBin dMod (mVar 0) (mC (.int 1000000007))) (mBin (dMul false) (mC (.int 7919)) (mVar 1))) (mC (.int 13))) (.one 0))
    (sRet (mBin dMod (mBin (dMul false) (mBin dMod (mBin (dMul false) (mVar 0) (mVar 0)) (mC (.int 1000000007))) (mC (.int 48271))) (mC (.int 2147483647)))))
theorem B__law_mixed (call : Nat → Fn) : bodyOf Gx call s__law_mixed N__law_mixed = P__law_mixed call := by kernel_rfl
/-- _law_thing -/
noncomputable def P__law_thing (call : Nat → Fn) : MS :=
    (sSeq (sAsg (mLst false (mCons (mTup mNil) (mCons (mTup (mCons (mC (.str "box")) mNil)) (mCons (mTup (mCons (mC (.str "box")) (mCons (mC (.str "shut")) mNil))) (mCons (mTup (mCons (mC (.str "box")) (mCons (mC (.str "clear")) (mCons (mC (.str "shut")) mNil)))) (mCons (mTup (mCons (mC (.str "stand")) mNil)) (mCons (mTup (mCons (mC (.str "fixed")) (mCons (mC (.str "stand")) mNil))) (mCons (mTup (mCons (mC (.str "lit")) mNil)) mNil)))))))) (.one 4))
    (sSeq (sAsg (mBin (dAdd false) (mVar 4) (mLst false (mCons (mTup (mCons (mC (.str "wear")) mNil)) (mCons (mTup (mCons (mC (.str "fixed")) mNil)) (mCons (mTup (mCons (mC (.str "door")) mNil)) (mCons (mTup (mCons (mC (.str "door")) (mCons (mC (.str "shut")) mNil))) (mCons (mTup mNil) mNil))))))) (.one 4))
    (sSeq (sAsg (mBin dIx (mVar 4) (mBin dMod (mVar 1) (mC (.int 12)))) (.one 5))
    (sSeq (sAsg (mBin dIx (mLst false (mCons (mC (.str "lamp")) (mCons (mC (.str "crate")) (mCons (mC (.str "shelf")) (mCons (mC (.str "hat")) (mCons (mC (.str "stone")) (mCons (mC (.str "gate")) (mCons (mC (.str "chest")) (mCons (mC (.str "cup")) (mCons (mC (.str "book")) (mCons (mC (.str "coin")) mNil))))))))))) (mVar 0)) (.one 6))
    (sSeq (sAsg (mLc false (mItems (mVar 3)) (.one 8) [8] (mTest (mBin (dIn false) (mC (.str "box")) (mBin dIx (mVar 8) (mC (.int 4))))) (mBin dIx (mVar 8) (mC (.int 0)))) (.one 7))
    (sSeq (sAsg (mLc false (mItems (mVar 3)) (.one 8) [8] (mTest (mBin (dIn false) (mC (.str "stand")) (mBin dIx (mVar 8) (mC (.int 4))))) (mBin dIx (mVar 8) (mC (.int 0)))) (.one 9))
    (sSeq (sAsg (mBin dDiv (mVar 1) (mC (.int 12))) (.one 10))
    (sSeq (sAsg (mTup (mCons (mC (.str "at")) (mCons (mBin dIx (mVar 2) (mBin dMod (mBin dDiv (mVar 10) (mC (.int 7))) (mApp dLen (mCons (mVar 2) mNil)))) mNil))) (.one 11))
    (sSeq (sIf (mOrT (mTest (mBin (dIn false) (mC (.str "door")) (mVar 5))) (mTest (mBin (dEq false) (mBin dMod (mVar 10) (mC (.int 7))) (mC (.int 0))))) (sAsg (mTup (mCons (mC (.str "nowhere")) mNil)) (.one 11)) (sIf (mTest (mBin (dEq false) (mBin dMod (mVar 10) (mC (.int 7))) (mC (.int 1)))) (sAsg (mTup (mCons (mC (.str "with")) mNil)) (.one 11)) (sIf (mAndT (mTest (mBin dLt (mBin dMod (mVar 10) (mC (.int 7))) (mC (.int 4)))) (mTest (mBin (dEq true) (mVar 7) (mLst false mNil)))) (sAsg (mTup (mCons (mC (.str "in")) (mCons (mBin dIx (mVar 7) (mBin dMod (mBin dDiv (mVar 10) (mC (.int 7))) (mApp dLen (mCons (mVar 7) mNil)))) mNil))) (.one 11)) (sIf (mAndT (mTest (mBin (dEq false) (mBin dMod (mVar 10) (mC (.int 7))) (mC (.int 4)))) (mTest (mBin (dEq true) (mVar 9) (mLst false mNil)))) (sAsg (mTup (mCons (mC (.str "on")) (mCons (mBin dIx (mVar 9) (mBin dMod (mBin dDiv (mVar 10) (mC (.int 7))) (mApp dLen (mCons (mVar 9) mNil)))) mNil))) (.one 11)) sNil))))
    (sRet (mTup (mCons (mVar 6) (mCons (mVar 6) (mCons (mTup mNil) (mCons (mVar 11) (mCons (mVar 5) mNil))))))))))))))))
theorem B__law_thing (call : Nat → Fn) : bodyOf Gx call s__law_thing N__law_thing = P__law_thing call := by kernel_rfl
/-- _law_tale_condition -/
noncomputable def P__law_tale_condition (call : Nat → Fn) : MS :=
    (sSeq (sAsg (mLc false (mItems (mVar 2)) (.one 4) [4] (mTest (mBin (dIn true) (mC (.str "door")) (mBin dIx (mVar 4) (mC (.int 4))))) (mBin dIx (mVar 4) (mC (.int 0)))) (.one 3))
    (sSeq (sAsg (mLc false (mItems (mVar 2)) (.one 4) [4] (mOrT (mTest (mBin (dIn false) (mC (.str "box")) (mBin dIx (mVar 4) (mC (.int 4))))) (mTest (mBin (dIn false) (mC (.str "stand")) (mBin dIx (mVar 4) (mC (.int 4)))))) (mBin dIx (mVar 4) (mC (.int 0)))) (.one 5))
    (sSeq (sAsg (mBin (dEq false) (mBin dMod (mVar 0) (mC (.int 3))) (mC (.int 0))) (.one 6))
    (sSeq (sAsg (mBin dDiv (mVar 0) (mC (.int 27))) (.one 7))
    (sSeq (sAsg (mBin dIx (mLst false (mCons (mC (.str "is")) (mCons (mC (.str "at")) (mCons (mC (.str "in")) (mCons (mC (.str "with")) (mCons (mC (.str "nowhere")) (mCons (mC (.str "open")) (mCons (mC (.str "worn")) (mCons (mC (.str "you")) (mCons (mC (.str "is")) mNil)))))))))) (mBin dMod (mBin dDiv (mVar 0) (mC (.int 3))) (mC (.int 9)))) (.one 8))
    (sSeq (sIf (mTest (mBin (dEq false) (mVar 8) (mC (.str "you")))) (sRet (mTup (mCons (mVar 6) (mCons (mVar 8) (mCons (mBin dIx (mVar 1) (mBin dMod (mVar 7) (mApp dLen (mCons (mVar 1) mNil)))) (mCons (mC (.str "")) mNil)))))) sNil)
    (sSeq (sIf (mAndT (mTest (mBin (dEq false) (mVar 8) (mC (.str "in")))) (mAndT (mTest (mBin (dEq true) (mVar 5) (mLst false mNil))) (mTest (mBin (dEq true) (mVar 3) (mLst false mNil))))) (sSeq (sAsg (mBin dIx (mVar 5) (mBin dMod (mVar 7) (mApp dLen (mCons (mVar 5) mNil)))) (.one 9))
    (sSeq (sAsg (mBin dIx (mLc false (mItems (mVar 2)) (.one 4) [4] (mTest (mBin (dEq false) (mBin dIx (mVar 4) (mC (.int 0))) (mVar 9))) (mIfE (mTest (mBin (dIn false) (mC (.str "box")) (mBin dIx (mVar 4) (mC (.int 4))))) (mC (.str "in")) (mC (.str "on")))) (mC (.int 0))) (.one 10))
    (sRet (mTup (mCons (mVar 6) (mCons (mVar 10) (mCons (mBin dIx (mVar 3) (mBin dMod (mBin dDiv (mVar 7) (mC (.int 12))) (mApp dLen (mCons (mVar 3) mNil)))) (mCons (mVar 9) mNil)))))))) sNil)
    (sSeq (sIf (mAndT (mTest (mBin (dEq false) (mVar 8) (mC (.str "at")))) (mTest (mBin (dEq true) (mVar 3) (mLst false mNil)))) (sRet (mTup (mCons (mVar 6) (mCons (mVar 8) (mCons (mBin dIx (mVar 3) (mBin dMod (mVar 7) (mApp dLen (mCons (mVar 3) mNil)))) (mCons (mBin dIx (mVar 1) (mBin dMod (mBin dDiv (mVar 7) (mC (.int 12))) (mApp dLen (mCons (mVar 1) mNil)))) mNil)))))) sNil)
    (sSeq (sIf (mAndT (mTest (mBin (dIn false) (mVar 8) (mTup (mCons (mC (.str "with")) (mCons (mC (.str "nowhere")) (mCons (mC (.str "open")) (mCons (mC (.str "worn")) mNil))))))) (mTest (mBin (dEq true) (mVar 3) (mLst false mNil)))) (sRet (mTup (mCons (mVar 6) (mCons (mVar 8) (mCons (mBin dIx (mVar 3) (mBin dMod (mVar 7) (mApp dLen (mCons (mVar 3) mNil)))) (mCons (mC (.str "")) mNil)))))) sNil)
    (sRet (mTup (mCons (mVar 6) (mCons (mC (.str "is")) (mCons (mBin dIx (mLst false (mCons (mC (.str "fed")) (mCons (mC (.str "mood")) mNil))) (mBin dMod (mVar 7) (mC (.int 2)))) (mCons (mBin dMod (mBin dDiv (mVar 7) (mC (.int 2))) (mC (.int 3))) mNil)))))))))))))))
theorem B__law_tale_condition (call : Nat → Fn) : bodyOf Gx call s__law_tale_condition N__law_tale_condition = P__law_tale_condition call := by kernel_rfl
/-- _law_tale_effect -/
noncomputable def P__law_tale_effect (call : Nat → Fn) : MS :=
    (sSeq (sAsg (mLc false (mItems (mVar 2)) (.one 5) [5] (mTest (mBin (dIn true) (mC (.str "door")) (mBin dIx (mVar 5) (mC (.int 4))))) (mBin dIx (mVar 5) (mC (.int 0)))) (.one 4))
    (sSeq (sAsg (mLc false (mItems (mVar 2)) (.one 5) [5] (mTest (mBin (dIn false) (mC (.str "box")) (mBin dIx (mVar 5) (mC (.int 4))))) (mBin dIx (mVar 5) (mC (.int 0)))) (.one 6))
    (sSeq (sAsg (mBin dDiv (mVar 0) (mC (.int 6))) (.one 7))
    (sSeq (sIf (mTest (mBin dLt (mBin dMod (mVar 0) (mC (.int 6))) (mC (.int 2)))) (sRet (mTup (mCons (mC (.str "say")) (mCons (mBin dIx (mLst false (mCons (mC (.str "the lamp flickers")) (mCons (mC (.str "a")) (mCons (mC (.str "not now")) (mCons (mC (.str "you smile")) mNil))))) (mBin dMod (mVar 7) (mC (.int 4)))) mNil)))) sNil)
    (sSeq (sIf (mTest (mBin (dEq false) (mBin dMod (mVar 0) (mC (.int 6))) (mC (.int 2)))) (sRet (mTup (mCons (mC (.str "set")) (mCons (mBin dIx (mLst false (mCons (mC (.str "fed")) (mCons (mC (.str "mood")) mNil))) (mBin dMod (mVar 7) (mC (.int 2)))) (mCons (mBin dMod (mBin dDiv (mVar 7) (mC (.int 2))) (mC (.int 3))) mNil))))) sNil)
    (sSeq (sIf (mAndT (mTest (mBin (dEq false) (mBin dMod (mVar 0) (mC (.int 6))) (mC (.int 3)))) (mTest (mBin (dEq false) (mVar 3) (mC (.str "before"))))) (sRet (mTup (mCons (mC (.str "stop")) mNil))) sNil)
    (sSeq (sIf (mTest (mBin (dEq false) (mVar 4) (mLst false mNil))) (sRet (mTup (mCons (mC (.str "say")) (mCons (mC (.str "nothing")) mNil)))) sNil)
    (sSeq (sAsg (mLst false (mCons (mTup (mCons (mC (.str "at")) (mCons (mBin dIx (mVar 1) (mBin dMod (mBin dDiv (mVar 7) (mC (.int 12))) (mApp dLen (mCons (mVar 1) mNil)))) mNil))) (mCons (mTup (mCons (mC (.str "with")) mNil)) (mCons (mTup (mCons (mC (.str "nowhere")) mNil)) mNil)))) (.one 8))
    (sSeq (sAsg (mBin (dAdd false) (mVar 8) (mLc false (mItems (mVar 6)) (.one 9) [9] mYes (mTup (mCons (mC (.str "in")) (mCons (mVar 9) mNil))))) (.one 8))
    (sSeq (sAsg (mBin (dAdd false) (mVar 8) (mLc false (mItems (mVar 2)) (.one 5) [5] (mTest (mBin (dIn false) (mC (.str "stand")) (mBin dIx (mVar 5) (mC (.int 4))))) (mTup (mCons (mC (.str "on")) (mCons (mBin dIx (mVar 5) (mC (.int 0))) mNil))))) (.one 8))
    (sRet (mTup (mCons (mC (.str "move")) (mCons (mBin dIx (mVar 4) (mBin dMod (mVar 7) (mApp dLen (mCons (mVar 4) mNil)))) (mCons (mBin dIx (mVar 8) (mBin dMod (mBin dDiv (mVar 7) (mC (.int 40))) (mApp dLen (mCons (mVar 8) mNil)))) mNil)))))))))))))))
theorem B__law_tale_effect (call : Nat → Fn) : bodyOf Gx call s__law_tale_effect N__law_tale_effect = P__law_tale_effect call := by kernel_rfl
/-- _law_rule -/
noncomputable def P__law_rule (call : Nat → Fn) : MS :=
    (sSeq (sAsg (mBin dIx (mLst false (mCons (mC (.str "before")) (mCons (mC (.str "instead")) (mCons (mC (.str "after")) (mCons (mC (.str "after")) (mCons (mC (.str "before")) mNil)))))) (mBin dMod (mVar 0) (mC (.int 5)))) (.one 3))
    (sSeq (sAsg (mBin dIx (mLst false (mCons (mC (.str "take")) (mCons (mC (.str "drop")) (mCons (mC (.str "put")) (mCons (mC (.str "open")) (mCons (mC (.str "shut")) (mCons (mC (.str "wear")) (mCons (mC (.str "doff")) (mCons (mC (.str "go")) (mCons (mC (.str "wait")) (mCons (mC (.str "take")) mNil))))))))))) (mBin dMod (mBin dDiv (mVar 0) (mC (.int 5))) (mC (.int 10)))) (.one 4))
    (sSeq (sAsg (mBin dDiv (mVar 0) (mC (.int 50))) (.one 5))
    (sSeq (sAsg (mIfE (mTest (mBin (dEq false) (mVar 4) (mC (.str "go")))) (mVar 1) (mLc false (mItems (mVar 2)) (.one 7) [7] mYes (mBin dIx (mVar 7) (mC (.int 0))))) (.one 6))
    (sSeq (sAsg (mIfE (mOrT (mTest (mBin (dEq false) (mVar 4) (mC (.str "wait")))) (mTest (mBin (dEq false) (mBin dMod (mVar 5) (mC (.int 3))) (mC (.int 0))))) (mC (.str "")) (mBin dIx (mVar 6) (mBin dMod (mBin dDiv (mVar 5) (mC (.int 3))) (mApp dLen (mCons (mVar 6) mNil))))) (.one 8))
    (sSeq (sAsg (mCall 2 (call i__law_mixed) (mCons (mVar 0) (mCons (mC (.int 2)) mNil))) (.one 9))
    (sSeq (sAsg (mLst true mNil) (.one 10))
    (sSeq (sFor (mRange1 (mBin dMod (mVar 9) (mC (.int 3)))) (.one 11) (sSeq (sAsg (mCall 3 (call i__law_tale_condition) (mCons (mCall 2 (call i__law_mixed) (mCons (mVar 9) (mCons (mVar 11) mNil))) (mCons (mVar 1) (mCons (mVar 2) mNil)))) (.one 7))
    (sIf (mTest (mBin (dIn true) (mBin (dAdd false) (mTup (mCons (mNotV (mBin dIx (mVar 7) (mC (.int 0)))) mNil)) (mSl false (mVar 7) (mPart (mC (.int 1))) mNoPart)) (mVar 10))) (sExpr (mMeth "list" dAppend (mVar 10) (mCons (mVar 7) mNil))) sNil)))
    (sSeq (sAsg (mLst true mNil) (.one 12))
    (sSeq (sFor (mRange1 (mBin (dAdd false) (mC (.int 1)) (mBin dMod (mBin dDiv (mVar 9) (mC (.int 3))) (mC (.int 3))))) (.one 11) (sExpr (mMeth "list" dAppend (mVar 12) (mCons (mCall 4 (call i__law_tale_effect) (mCons (mCall 2 (call i__law_mixed) (mCons (mVar 9) (mCons (mBin (dAdd false) (mC (.int 5)) (mVar 11)) mNil))) (mCons (mVar 1) (mCons (mVar 2) (mCons (mVar 3) mNil))))) mNil))))
    (sRet (mTup (mCons (mVar 3) (mCons (mVar 4) (mCons (mVar 8) (mCons (mApp dTuple (mCons (mVar 10) mNil)) (mCons (mApp dTuple (mCons (mVar 12) mNil)) mNil)))))))))))))))))
theorem B__law_rule (call : Nat → Fn) : bodyOf Gx call s__law_rule N__law_rule = P__law_rule call := by kernel_rfl
/-- _law_tale -/
noncomputable def P__law_tale (call : Nat → Fn) : MS :=
    (sSeq (sAsg (mBin (dAdd false) (mApp dSum (mCons (mVar 0) mNil)) (mApp dLen (mCons (mVar 0) mNil))) (.one 1))
    (sSeq (sAsg (mBin (dAdd false) (mSl false (mVar 0) mNoPart (mPart (mC (.int 200)))) (mLst false (mCons (mVar 1) mNil))) (.one 2))
    (sSeq (sAsg (mSl false (mLst false (mCons (mC (.str "hall")) (mCons (mC (.str "attic")) (mCons (mC (.str "cave")) (mCons (mC (.str "yard")) mNil))))) mNoPart (mPart (mBin (dAdd false) (mC (.int 1)) (mBin dMod (mCall 2 (call i__law_mixed) (mCons (mVar 1) (mCons (mC (.int 1)) mNil))) (mC (.int 4)))))) (.one 3))
    (sSeq (sAsg (mLst true mNil) (.one 4))
    (sSeq (sFor (mRange1 (mBin (dAdd false) (mC (.int 2)) (mBin dMod (mCall 2 (call i__law_mixed) (mCons (mVar 1) (mCons (mC (.int 2)) mNil))) (mC (.int 8))))) (.one 5) (sExpr (mMeth "list" dAppend (mVar 4) (mCons (mCall 4 (call i__law_thing) (mCons (mVar 5) (mCons (mCall 2 (call i__law_mixed) (mCons (mBin dIx (mVar 2) (mBin dMod (mVar 5) (mApp dLen (mCons (mVar 2) mNil)))) (mCons (mBin (dAdd false) (mC (.int 10)) (mVar 5)) mNil))) (mCons (mVar 3) (mCons (mVar 4) mNil))))) mNil))))
    (sSeq (sAsg (mLc false (mItems (mVar 4)) (.one 7) [7] (mTest (mBin (dIn false) (mC (.str "door")) (mBin dIx (mVar 7) (mC (.int 4))))) (mBin dIx (mVar 7) (mC (.int 0)))) (.one 6))
    (sSeq (sAsg (mLst true mNil) (.one 8))
    (sSeq (sFor (mRange1 (mBin dSub (mApp dLen (mCons (mVar 3) mNil)) (mC (.int 1)))) (.one 5) (sSeq (sAsg (mBin dIx (mBin (dAdd false) (mSl false (mVar 6) (mPart (mVar 5)) (mPart (mBin (dAdd false) (mVar 5) (mC (.int 1))))) (mLst false (mCons (mC (.str "")) mNil))) (mC (.int 0))) (.one 9))
    (sSeq (sExpr (mMeth "list" dAppend (mVar 8) (mCons (mTup (mCons (mBin dIx (mVar 3) (mVar 5)) (mCons (mBin dIx (mLst false (mCons (mC (.str "east")) (mCons (mC (.str "up")) (mCons (mC (.str "south")) mNil)))) (mVar 5)) (mCons (mBin dIx (mVar 3) (mBin (dAdd false) (mVar 5) (mC (.int 1)))) (mCons (mVar 9) mNil))))) mNil)))
    (sExpr (mMeth "list" dAppend (mVar 8) (mCons (mTup (mCons (mBin dIx (mVar 3) (mBin (dAdd false) (mVar 5) (mC (.int 1)))) (mCons (mBin dIx (mLst false (mCons (mC (.str "west")) (mCons (mC (.str "down")) (mCons (mC (.str "north")) mNil)))) (mVar 5)) (mCons (mBin dIx (mVar 3) (mVar 5)) (mCons (mVar 9) mNil))))) mNil))))))
    (sSeq (sAsg (mLc false (mItems (mVar 8)) (.one 11) [11] mYes (mBin dIx (mVar 11) (mC (.int 3)))) (.one 10))
    (sSeq (sAsg (mLc false (mItems (mVar 4)) (.one 7) [7] mYes (mIfE (mAndT (mTest (mBin (dIn false) (mC (.str "door")) (mBin dIx (mVar 7) (mC (.int 4))))) (mTest (mBin (dIn true) (mBin dIx (mVar 7) (mC (.int 0))) (mVar 10)))) (mBin (dAdd false) (mSl false (mVar 7) mNoPart (mPart (mC (.int 4)))) (mTup (mCons (mTup mNil) mNil))) (mVar 7))) (.one 4))
    (sSeq (sAsg (mLst true mNil) (.one 12))
    (sSeq (sFor (mRange1 (mBin dMod (mCall 2 (call i__law_mixed) (mCons (mVar 1) (mCons (mC (.int 3)) mNil))) (mC (.int 13)))) (.one 5) (sExpr (mMeth "list" dAppend (mVar 12) (mCons (mCall 3 (call i__law_rule) (mCons (mCall 2 (call i__law_mixed) (mCons (mBin dIx (mVar 2) (mBin dMod (mBin (dAdd false) (mBin (dMul false) (mVar 5) (mC (.int 5))) (mC (.int 3))) (mApp dLen (mCons (mVar 2) mNil)))) (mCons (mBin (dAdd false) (mC (.int 30)) (mVar 5)) mNil))) (mCons (mVar 3) (mCons (mVar 4) mNil)))) mNil))))
    (sSeq (sAsg (mLc false (mEnum (mVar 3)) (.many [5, 14]) [5, 14] mYes (mTup (mCons (mVar 14) (mCons (mBin (dEq false) (mBin dMod (mCall 2 (call i__law_mixed) (mCons (mVar 1) (mCons (mBin (dAdd false) (mC (.int 40)) (mVar 5)) mNil))) (mC (.int 5))) (mC (.int 0))) mNil)))) (.one 13))
    (sRet (mLst false (mCons (mVar 13) (mCons (mVar 4) (mCons (mVar 8) (mCons (mLst false (mCons (mTup (mCons (mC (.str "fed")) (mCons (mC (.int 0)) mNil))) (mCons (mTup (mCons (mC (.str "mood")) (mCons (mC (.int 1)) mNil))) mNil))) (mCons (mVar 12) (mCons (mLst false mNil) (mCons (mLst false mNil) (mCons (mLst false mNil) mNil)))))))))))))))))))))))
theorem B__law_tale (call : Nat → Fn) : bodyOf Gx call s__law_tale N__law_tale = P__law_tale call := by kernel_rfl
/-- _law_made -/
noncomputable def P__law_made (call : Nat → Fn) : MS :=
    (sSeq (sAsg (mVar 0) (.many [1, 2, 3, 4, 5, 6, 7, 8]))
    (sRet (mMake 1 8 (call i_M_World___init__) (mCons (mVar 1) (mCons (mVar 2) (mCons (mVar 3) (mCons (mVar 4) (mCons (mVar 5) (mCons (mVar 6) (mCons (mVar 7) (mCons (mVar 8) mNil)))))))))))
theorem B__law_made (call : Nat → Fn) : bodyOf Gx call s__law_made N__law_made = P__law_made call := by kernel_rfl
/-- _law_begin -/
noncomputable def P__law_begin (call : Nat → Fn) : MS :=
    (sSeq (sAsg (fun _ st => mkD true [] st) (.one 1))
    (sSeq (sFor (mItems (mBin dIx (mVar 0) (mC (.int 1)))) (.many [2, 3, 4, 5, 6]) (sIf (mOrT (mTest (mBin (dIn false) (mC (.str "box")) (mVar 6))) (mTest (mBin (dIn false) (mC (.str "door")) (mVar 6)))) (sSto (mBin (dIn true) (mC (.str "shut")) (mVar 6)) (mVar 1) (mVar 2)) sNil))
    (sSeq (sAsg (mApp (dDict true) (mCons (mLc false (mItems (mBin dIx (mVar 0) (mC (.int 1)))) (.one 8) [8] mYes (mTup (mCons (mBin dIx (mVar 8) (mC (.int 0))) (mCons (mBin dIx (mVar 8) (mC (.int 3))) mNil)))) mNil)) (.one 7))
    (sRet (mDisp true (mPair (mC (.str "here")) (mBin dIx (mBin dIx (mBin dIx (mVar 0) (mC (.int 0))) (mC (.int 0))) (mC (.int 0))) (mPair (mC (.str "where")) (mVar 7) (mPair (mC (.str "open")) (mVar 1) (mPair (mC (.str "worn")) (mLst true mNil) (mPair (mC (.str "count")) (mApp (dDict true) (mCons (mBin dIx (mVar 0) (mC (.int 3))) mNil)) mPNil))))))))))
theorem B__law_begin (call : Nat → Fn) : bodyOf Gx call s__law_begin N__law_begin = P__law_begin call := by kernel_rfl
/-- _law_outer -/
noncomputable def P__law_outer (call : Nat → Fn) : MS :=
    (sSeq (sAsg (mLst true mNil) (.one 2))
    (sSeq (sAsg (mBin dIx (mBin dIx (mVar 0) (mC (.str "where"))) (mVar 1)) (.one 3))
    (sSeq (sWhile (mTest (mBin (dIn false) (mBin dIx (mVar 3) (mC (.int 0))) (mTup (mCons (mC (.str "in")) (mCons (mC (.str "on")) mNil))))) (sSeq (sExpr (mMeth "list" dAppend (mVar 2) (mCons (mVar 3) mNil)))
    (sAsg (mBin dIx (mBin dIx (mVar 0) (mC (.str "where"))) (mBin dIx (mVar 3) (mC (.int 1)))) (.one 3))) loopFuel)
    (sRet (mTup (mCons (mVar 2) (mCons (mVar 3) mNil)))))))
theorem B__law_outer (call : Nat → Fn) : bodyOf Gx call s__law_outer N__law_outer = P__law_outer call := by kernel_rfl
/-- _law_holds -/
noncomputable def P__law_holds (call : Nat → Fn) : MS :=
    (sSeq (sAsg (mVar 1) (.many [2, 3, 4, 5]))
    (sSeq (sIf (mTest (mBin (dEq false) (mVar 3) (mC (.str "is")))) (sRet (mBin (dEq true) (mBin (dEq false) (mBin dIx (mBin dIx (mVar 0) (mC (.str "count"))) (mVar 4)) (mVar 5)) (mVar 2))) sNil)
    (sSeq (sIf (mTest (mBin (dEq false) (mVar 3) (mC (.str "you")))) (sRet (mBin (dEq true) (mBin (dEq false) (mBin dIx (mVar 0) (mC (.str "here"))) (mVar 4)) (mVar 2))) sNil)
    (sSeq (sIf (mTest (mBin (dEq false) (mVar 3) (mC (.str "open")))) (sRet (mBin (dEq true) (mMeth "dict" dGet (mBin dIx (mVar 0) (mC (.str "open"))) (mCons (mVar 4) (mCons (mC (.bl false)) mNil))) (mVar 2))) sNil)
    (sSeq (sIf (mTest (mBin (dEq false) (mVar 3) (mC (.str "worn")))) (sRet (mBin (dEq true) (mBin (dIn false) (mVar 4) (mBin dIx (mVar 0) (mC (.str "worn")))) (mVar 2))) sNil)
    (sSeq (sAsg (mBin dIx (mBin dIx (mVar 0) (mC (.str "where"))) (mVar 4)) (.one 6))
    (sRet (mBin (dEq true) (mBin (dEq false) (mVar 6) (mIfE (mTest (mBin (dIn false) (mVar 3) (mTup (mCons (mC (.str "at")) (mCons (mC (.str "in")) (mCons (mC (.str "on")) mNil)))))) (mTup (mCons (mVar 3) (mCons (mVar 5) mNil))) (mTup (mCons (mVar 3) mNil)))) (mVar 2)))))))))
theorem B__law_holds (call : Nat → Fn) : bodyOf Gx call s__law_holds N__law_holds = P__law_holds call := by kernel_rfl
/-- _law_moved -/
noncomputable def P__law_moved (call : Nat → Fn) : MS :=
    (sSeq (sIf (mTest (mBin (dIn false) (mBin dIx (mVar 2) (mC (.int 0))) (mTup (mCons (mC (.str "in")) (mCons (mC (.str "on")) mNil))))) (sIf (mOrT (mTest (mBin (dEq false) (mBin dIx (mVar 2) (mC (.int 1))) (mVar 1))) (mTest (mBin (dIn false) (mVar 1) (mLc false (mItems (mBin dIx (mCall 2 (call i__law_outer) (mCons (mVar 0) (mCons (mBin dIx (mVar 2) (mC (.int 1))) mNil))) (mC (.int 0)))) (.one 3) [3] mYes (mBin dIx (mVar 3) (mC (.int 1))))))) sRetN sNil) sNil)
    (sSeq (sSto (mVar 2) (mBin dIx (mVar 0) (mC (.str "where"))) (mVar 1))
    (sIf (mAndT (mTest (mBin (dEq true) (mVar 2) (mTup (mCons (mC (.str "with")) mNil)))) (mTest (mBin (dIn false) (mVar 1) (mBin dIx (mVar 0) (mC (.str "worn")))))) (sExpr mNo) sNil)))
theorem B__law_moved (call : Nat → Fn) : bodyOf Gx call s__law_moved N__law_moved = P__law_moved call := by kernel_rfl
/-- _law_effects -/
noncomputable def P__law_effects (call : Nat → Fn) : MS :=
    (sSeq (sAsg (mLst true mNil) (.one 2))
    (sSeq (sFor (mItems (mVar 1)) (.one 3) (sSeq (sIf (mTest (mBin (dEq false) (mBin dIx (mVar 3) (mC (.int 0))) (mC (.str "stop")))) (sRet (mTup (mCons (mVar 2) (mCons (mC (.bl true)) mNil)))) sNil)
    (sIf (mTest (mBin (dEq false) (mBin dIx (mVar 3) (mC (.int 0))) (mC (.str "say")))) (sExpr (mMeth "list" dAppend (mVar 2) (mCons (mBin dIx (mVar 3) (mC (.int 1))) mNil))) (sIf (mTest (mBin (dEq false) (mBin dIx (mVar 3) (mC (.int 0))) (mC (.str "set")))) (sSto (mBin dIx (mVar 3) (mC (.int 2))) (mBin dIx (mVar 0) (mC (.str "count"))) (mBin dIx (mVar 3) (mC (.int 1)))) (sExpr (mCall 3 (call i__law_moved) (mCons (mVar 0) (mCons (mBin dIx (mVar 3) (mC (.int 1))) (mCons (mBin dIx (mVar 3) (mC (.int 2))) mNil)))))))))
    (sRet (mTup (mCons (mVar 2) (mCons (mC (.bl false)) mNil))))))
theorem B__law_effects (call : Nat → Fn) : bodyOf Gx call s__law_effects N__law_effects = P__law_effects call := by kernel_rfl
/-- _law_told_state -/
noncomputable def P__law_told_state (call : Nat → Fn) : MS :=
    (sSeq (sAsg (mLc false (mItems (mBin dIx (mVar 0) (mC (.int 1)))) (.one 4) [4] mYes (mBin dIx (mVar 4) (mC (.int 0)))) (.one 3))
    (sSeq (sAsg (mApp dTuple (mCons (mLc false (mItems (mVar 3)) (.one 4) [4] (mTru (mMeth "dict" dGet (mBin dIx (mVar 1) (mC (.str "open"))) (mCons (mVar 4) (mCons (mC (.bl false)) mNil)))) (mVar 4)) mNil)) (.one 5))
    (sSeq (sAsg (mApp dTuple (mCons (mLc false (mItems (mVar 3)) (.one 4) [4] (mTest (mBin (dIn false) (mVar 4) (mBin dIx (mVar 1) (mC (.str "worn"))))) (mVar 4)) mNil)) (.one 6))
    (sSeq (sAsg (mApp dTuple (mCons (mLc false (mItems (mBin dIx (mVar 0) (mC (.int 3)))) (.one 8) [8] mYes (mBin dIx (mBin dIx (mVar 1) (mC (.str "count"))) (mBin dIx (mVar 8) (mC (.int 0))))) mNil)) (.one 7))
    (sRet (mTup (mCons (mBin dIx (mVar 1) (mC (.str "here"))) (mCons (mVar 2) (mCons (mApp dTuple (mCons (mLc false (mItems (mVar 3)) (.one 4) [4] mYes (mBin dIx (mBin dIx (mVar 1) (mC (.str "where"))) (mVar 4))) mNil)) (mCons (mVar 5) (mCons (mVar 6) (mCons (mVar 7) mNil))))))))))))
theorem B__law_told_state (call : Nat → Fn) : bodyOf Gx call s__law_told_state N__law_told_state = P__law_told_state call := by kernel_rfl
/-- _law_conditions_right -/
noncomputable def P__law_conditions_right (call : Nat → Fn) : MS :=
    (sSeq (sAsg (mLc false (mItems (mVar 3)) (.one 5) [5] mYes (mCall 2 (call i__law_holds) (mCons (mVar 2) (mCons (mVar 5) mNil)))) (.one 4))
    (sSeq (sAsg (mLc false (mItems (mVar 3)) (.one 5) [5] mYes (mCall 3 (call i_holds_now) (mCons (mVar 0) (mCons (mVar 1) (mCons (mVar 5) mNil))))) (.one 6))
    (sSeq (sIf (mOrT (mTest (mBin (dEq true) (mVar 6) (mVar 4))) (mTest (mBin (dEq true) (mLc false (mItems (mVar 6)) (.one 5) [5] (mNotT (mTru (mIsi ["bool"] (mVar 5)))) (mVar 5)) (mLst false mNil)))) (sRet (mC (.bl false))) sNil)
    (sRet (mAndV (mBin (dEq false) (mCall 3 (call i_holds_all) (mCons (mVar 0) (mCons (mVar 1) (mCons (mVar 3) mNil)))) (mBin (dIn true) (mC (.bl false)) (mVar 4))) (mBin (dIs false) (mCall 3 (call i_holds_all) (mCons (mVar 0) (mCons (mVar 1) (mCons (mTup mNil) mNil)))) (mC (.bl true))))))))
theorem B__law_conditions_right (call : Nat → Fn) : bodyOf Gx call s__law_conditions_right N__law_conditions_right = P__law_conditions_right call := by kernel_rfl
/-- law -/
noncomputable def P_law (call : Nat → Fn) : MS :=
    (sSeq (sAsg (mCall 1 (call i__law_tale) (mCons (mVar 0) mNil)) (.one 1))
    (sSeq (sAsg (mCall 1 (call i__law_made) (mCons (mVar 1) mNil)) (.one 2))
    (sSeq (sAsg (mMake 0 1 (call i_M_State___init__) (mCons (mVar 2) mNil)) (.one 3))
    (sSeq (sAsg (mCall 1 (call i__law_begin) (mCons (mVar 1) mNil)) (.one 4))
    (sSeq (sAsg (mLc false (mItems (mBin dIx (mVar 1) (mC (.int 0)))) (.one 6) [6] mYes (mBin dIx (mVar 6) (mC (.int 0)))) (.one 5))
    (sSeq (sFor (mItems (mBin (dAdd false) (mSl false (mVar 0) mNoPart (mPart (mC (.int 120)))) (mLst false (mCons (mApp dSum (mCons (mVar 0) mNil)) mNil)))) (.one 7) (sSeq (sAsg (mCall 2 (call i__law_mixed) (mCons (mVar 7) (mCons (mC (.int 6)) mNil))) (.one 8))
    (sSeq (sAsg (mBin dIx (mLst false (mCons (mC (.str "before")) (mCons (mC (.str "after")) mNil))) (mBin dMod (mVar 8) (mC (.int 2)))) (.one 9))
    (sSeq (sAsg (mLst true mNil) (.one 10))
    (sSeq (sFor (mRange1 (mBin (dAdd false) (mC (.int 1)) (mBin dMod (mBin dDiv (mVar 8) (mC (.int 2))) (mC (.int 4))))) (.one 11) (sExpr (mMeth "list" dAppend (mVar 10) (mCons (mCall 4 (call i__law_tale_effect) (mCons (mCall 2 (call i__law_mixed) (mCons (mVar 8) (mCons (mVar 11) mNil))) (mCons (mVar 5) (mCons (mBin dIx (mVar 1) (mC (.int 1))) (mCons (mVar 9) mNil))))) mNil))))
    (sSeq (sAsg (mCall 2 (call i__law_effects) (mCons (mVar 4) (mCons (mVar 10) mNil))) (.one 12))
    (sSeq (sAsg (mCall 3 (call i_do_effects) (mCons (mVar 2) (mCons (mVar 3) (mCons (mApp dTuple (mCons (mVar 10) mNil)) mNil)))) (.one 13))
    (sSeq (sIf (mOrT (mTest (mBin (dEq true) (mVar 13) (mVar 12))) (mOrT (mNotT (mTru (mIsi ["list"] (mBin dIx (mVar 13) (mC (.int 0)))))) (mNotT (mTru (mIsi ["bool"] (mBin dIx (mVar 13) (mC (.int 1)))))))) (sRet (mC (.bl false))) sNil)
    (sSeq (sExpr (mMeth "list" dAppend (mBin dIx (mVar 13) (mC (.int 0))) (mCons (mC (.str "x")) mNil)))
    (sSeq (sIf (mTest (mBin (dEq true) (mMth mthF call "told" (mVar 3) mNil) (mCall 3 (call i__law_told_state) (mCons (mVar 1) (mCons (mVar 4) (mCons (mC (.int 0)) mNil)))))) (sRet (mC (.bl false))) sNil)
    (sSeq (sAsg (mLc false (mRange1 (mC (.int 4))) (.one 11) [11] mYes (mCall 3 (call i__law_tale_condition) (mCons (mCall 2 (call i__law_mixed) (mCons (mVar 8) (mCons (mBin (dAdd false) (mC (.int 20)) (mVar 11)) mNil))) (mCons (mVar 5) (mCons (mBin dIx (mVar 1) (mC (.int 1))) mNil))))) (.one 14))
    (sIf (mNotT (mTru (mCall 4 (call i__law_conditions_right) (mCons (mVar 2) (mCons (mVar 3) (mCons (mVar 4) (mCons (mApp dTuple (mCons (mVar 14) mNil)) mNil))))))) (sRet (mC (.bl false))) sNil))))))))))))
    (sRet (mBin (dEq false) (mBin dIx (mMth mthF call "told" (mVar 2) mNil) (mC (.int 4))) (mBin dIx (mVar 1) (mC (.int 4)))))))))))
theorem B_law (call : Nat → Fn) : bodyOf Gx call s_law N_law = P_law call := by kernel_rfl
/-- M_State___init__ -/
noncomputable def P_M_State___init__ (call : Nat → Fn) : MS :=
    (sSeq (sAsg (mMth mthF call "told" (mVar 1) mNil) (.one 2))
    (sSeq (sAtr fldF "tale" (mVar 1) (mVar 0))
    (sSeq (sAtr fldF "rows" (mApp (dDict true) (mCons (mLc false (mItems (mBin dIx (mVar 2) (mC (.int 1)))) (.one 3) [3] mYes (mTup (mCons (mBin dIx (mVar 3) (mC (.int 0))) (mCons (mVar 3) mNil)))) mNil)) (mVar 0))
    (sSeq (sAtr fldF "rooms" (mApp (dDict false) (mCons (mBin dIx (mVar 2) (mC (.int 0))) mNil)) (mVar 0))
    (sSeq (sAtr fldF "ways" (mBin dIx (mVar 2) (mC (.int 2))) (mVar 0))
    (sSeq (sAtr fldF "spot" (mBin dIx (mBin dIx (mBin dIx (mVar 2) (mC (.int 0))) (mC (.int 0))) (mC (.int 0))) (mVar 0))
    (sSeq (sAtr fldF "moment" (mC (.int 0)) (mVar 0))
    (sSeq (sAtr fldF "wheres" (mApp (dDict true) (mCons (mLc false (mItems (mBin dIx (mVar 2) (mC (.int 1)))) (.one 3) [3] mYes (mTup (mCons (mBin dIx (mVar 3) (mC (.int 0))) (mCons (mBin dIx (mVar 3) (mC (.int 3))) mNil)))) mNil)) (mVar 0))
    (sSeq (sAsg (mLc false (mItems (mBin dIx (mVar 2) (mC (.int 1)))) (.one 3) [3] (mOrT (mTest (mBin (dIn false) (mC (.str "box")) (mBin dIx (mVar 3) (mC (.int 4))))) (mTest (mBin (dIn false) (mC (.str "door")) (mBin dIx (mVar 3) (mC (.int 4)))))) (mVar 3)) (.one 4))
    (sSeq (sAtr fldF "lids" (mApp (dDict true) (mCons (mLc false (mItems (mVar 4)) (.one 3) [3] mYes (mTup (mCons (mBin dIx (mVar 3) (mC (.int 0))) (mCons (mBin (dIn true) (mC (.str "shut")) (mBin dIx (mVar 3) (mC (.int 4)))) mNil)))) mNil)) (mVar 0))
    (sSeq (sAtr fldF "dressed" (mApp (dDict true) (mCons (mLc false (mItems (mBin dIx (mVar 2) (mC (.int 1)))) (.one 3) [3] mYes (mTup (mCons (mBin dIx (mVar 3) (mC (.int 0))) (mCons (mC (.bl false)) mNil)))) mNil)) (mVar 0))
    (sAtr fldF "counts" (mApp (dDict true) (mCons (mLc false (mItems (mBin dIx (mVar 2) (mC (.int 3)))) (.one 3) [3] mYes (mTup (mCons (mBin dIx (mVar 3) (mC (.int 0))) (mCons (mBin dIx (mVar 3) (mC (.int 1))) mNil)))) mNil)) (mVar 0)))))))))))))
theorem B_M_State___init__ (call : Nat → Fn) : bodyOf Gx call s_M_State___init__ N_M_State___init__ = P_M_State___init__ call := by kernel_rfl
/-- M_State_told_world -/
noncomputable def P_M_State_told_world (call : Nat → Fn) : MS :=
    (sExpr (mCall 1 (call i__wall) (mCons (mC (.int 0)) mNil)))
theorem B_M_State_told_world (call : Nat → Fn) : bodyOf Gx call s_M_State_told_world N_M_State_told_world = P_M_State_told_world call := by kernel_rfl
/-- M_State_all_things -/
noncomputable def P_M_State_all_things (call : Nat → Fn) : MS :=
    (sExpr (mCall 1 (call i__wall) (mCons (mC (.int 1)) mNil)))
theorem B_M_State_all_things (call : Nat → Fn) : bodyOf Gx call s_M_State_all_things N_M_State_all_things = P_M_State_all_things call := by kernel_rfl
/-- M_State_has_trait -/
noncomputable def P_M_State_has_trait (call : Nat → Fn) : MS :=
    (sExpr (mCall 1 (call i__wall) (mCons (mC (.int 2)) mNil)))
theorem B_M_State_has_trait (call : Nat → Fn) : bodyOf Gx call s_M_State_has_trait N_M_State_has_trait = P_M_State_has_trait call := by kernel_rfl
/-- M_State_is_dark -/
noncomputable def P_M_State_is_dark (call : Nat → Fn) : MS :=
    (sExpr (mCall 1 (call i__wall) (mCons (mC (.int 3)) mNil)))
theorem B_M_State_is_dark (call : Nat → Fn) : bodyOf Gx call s_M_State_is_dark N_M_State_is_dark = P_M_State_is_dark call := by kernel_rfl
/-- M_State_doors_of -/
noncomputable def P_M_State_doors_of (call : Nat → Fn) : MS :=
    (sExpr (mCall 1 (call i__wall) (mCons (mC (.int 4)) mNil)))
theorem B_M_State_doors_of (call : Nat → Fn) : bodyOf Gx call s_M_State_doors_of N_M_State_doors_of = P_M_State_doors_of call := by kernel_rfl
/-- M_State_need_thing -/
noncomputable def P_M_State_need_thing (call : Nat → Fn) : MS :=
    (sIf (mOrT (mNotT (mTru (mIsi ["str"] (mVar 1)))) (mTest (mBin (dIn true) (mVar 1) (mAttr fldF "rows" (mVar 0))))) (sRaise 1) sNil)
theorem B_M_State_need_thing (call : Nat → Fn) : bodyOf Gx call s_M_State_need_thing N_M_State_need_thing = P_M_State_need_thing call := by kernel_rfl
/-- M_State_here -/
noncomputable def P_M_State_here (call : Nat → Fn) : MS :=
    (sRet (mAttr fldF "spot" (mVar 0)))
theorem B_M_State_here (call : Nat → Fn) : bodyOf Gx call s_M_State_here N_M_State_here = P_M_State_here call := by kernel_rfl
/-- M_State_turn -/
noncomputable def P_M_State_turn (call : Nat → Fn) : MS :=
    (sExpr (mCall 1 (call i__wall) (mCons (mC (.int 5)) mNil)))
theorem B_M_State_turn (call : Nat → Fn) : bodyOf Gx call s_M_State_turn N_M_State_turn = P_M_State_turn call := by kernel_rfl
/-- M_State_where -/
noncomputable def P_M_State_where (call : Nat → Fn) : MS :=
    (sSeq (sExpr (mMth mthF call "need_thing" (mVar 0) (mCons (mVar 1) mNil)))
    (sRet (mBin dIx (mAttr fldF "wheres" (mVar 0)) (mVar 1))))
theorem B_M_State_where (call : Nat → Fn) : bodyOf Gx call s_M_State_where N_M_State_where = P_M_State_where call := by kernel_rfl
/-- M_State_is_open -/
noncomputable def P_M_State_is_open (call : Nat → Fn) : MS :=
    (sSeq (sExpr (mMth mthF call "need_thing" (mVar 0) (mCons (mVar 1) mNil)))
    (sRet (mMeth "dict" dGet (mAttr fldF "lids" (mVar 0)) (mCons (mVar 1) (mCons (mC (.bl false)) mNil)))))
theorem B_M_State_is_open (call : Nat → Fn) : bodyOf Gx call s_M_State_is_open N_M_State_is_open = P_M_State_is_open call := by kernel_rfl
/-- M_State_is_worn -/
noncomputable def P_M_State_is_worn (call : Nat → Fn) : MS :=
    (sSeq (sExpr (mMth mthF call "need_thing" (mVar 0) (mCons (mVar 1) mNil)))
    (sRet (mBin dIx (mAttr fldF "dressed" (mVar 0)) (mVar 1))))
theorem B_M_State_is_worn (call : Nat → Fn) : bodyOf Gx call s_M_State_is_worn N_M_State_is_worn = P_M_State_is_worn call := by kernel_rfl
/-- M_State_number_of -/
noncomputable def P_M_State_number_of (call : Nat → Fn) : MS :=
    (sSeq (sIf (mOrT (mNotT (mTru (mIsi ["str"] (mVar 1)))) (mTest (mBin (dIn true) (mVar 1) (mAttr fldF "counts" (mVar 0))))) (sRaise 1) sNil)
    (sRet (mBin dIx (mAttr fldF "counts" (mVar 0)) (mVar 1))))
theorem B_M_State_number_of (call : Nat → Fn) : bodyOf Gx call s_M_State_number_of N_M_State_number_of = P_M_State_number_of call := by kernel_rfl
/-- M_State_holder_has -/
noncomputable def P_M_State_holder_has (call : Nat → Fn) : MS :=
    (sRet (mAndV (mIsi ["str"] (mVar 1)) (mAndV (mBin (dIn false) (mVar 1) (mAttr fldF "rows" (mVar 0))) (mBin (dIn false) (mVar 2) (mBin dIx (mBin dIx (mAttr fldF "rows" (mVar 0)) (mVar 1)) (mC (.int 4)))))))
theorem B_M_State_holder_has (call : Nat → Fn) : bodyOf Gx call s_M_State_holder_has N_M_State_holder_has = P_M_State_holder_has call := by kernel_rfl
/-- M_State_is_where -/
noncomputable def P_M_State_is_where (call : Nat → Fn) : MS :=
    (sSeq (sIf (mOrT (mNotT (mTru (mIsi ["tuple"] (mVar 1)))) (mOrT (mNotT (mTest (mChain dLe dLe (mC (.int 1)) (mApp dLen (mCons (mVar 1) mNil)) (mC (.int 2))))) (mNotT (mTru (mIsi ["str"] (mBin dIx (mVar 1) (mC (.int 0)))))))) (sRet (mC (.bl false))) sNil)
    (sSeq (sIf (mTest (mBin (dEq false) (mApp dLen (mCons (mVar 1) mNil)) (mC (.int 1)))) (sRet (mBin (dIn false) (mBin dIx (mVar 1) (mC (.int 0))) (mTup (mCons (mC (.str "with")) (mCons (mC (.str "nowhere")) mNil))))) sNil)
    (sSeq (sIf (mTest (mBin (dEq false) (mBin dIx (mVar 1) (mC (.int 0))) (mC (.str "at")))) (sRet (mAndV (mIsi ["str"] (mBin dIx (mVar 1) (mC (.int 1)))) (mBin (dIn false) (mBin dIx (mVar 1) (mC (.int 1))) (mAttr fldF "rooms" (mVar 0))))) sNil)
    (sSeq (sIf (mTest (mBin (dEq false) (mBin dIx (mVar 1) (mC (.int 0))) (mC (.str "in")))) (sRet (mMth mthF call "holder_has" (mVar 0) (mCons (mBin dIx (mVar 1) (mC (.int 1))) (mCons (mC (.str "box")) mNil)))) sNil)
    (sRet (mAndV (mBin (dEq false) (mBin dIx (mVar 1) (mC (.int 0))) (mC (.str "on"))) (mMth mthF call "holder_has" (mVar 0) (mCons (mBin dIx (mVar 1) (mC (.int 1))) (mCons (mC (.str "stand")) mNil)))))))))
theorem B_M_State_is_where (call : Nat → Fn) : bodyOf Gx call s_M_State_is_where N_M_State_is_where = P_M_State_is_where call := by kernel_rfl
/-- M_State_would_ring -/
noncomputable def P_M_State_would_ring (call : Nat → Fn) : MS :=
    (sSeq (sWhile (mTest (mBin (dIn false) (mBin dIx (mVar 2) (mC (.int 0))) (mTup (mCons (mC (.str "in")) (mCons (mC (.str "on")) mNil))))) (sSeq (sIf (mTest (mBin (dEq false) (mBin dIx (mVar 2) (mC (.int 1))) (mVar 1))) (sRet (mC (.bl true))) sNil)
    (sAsg (mBin dIx (mAttr fldF "wheres" (mVar 0)) (mBin dIx (mVar 2) (mC (.int 1)))) (.one 2))) loopFuel)
    (sRet (mC (.bl false))))
theorem B_M_State_would_ring (call : Nat → Fn) : bodyOf Gx call s_M_State_would_ring N_M_State_would_ring = P_M_State_would_ring call := by kernel_rfl
/-- M_State_move_thing -/
noncomputable def P_M_State_move_thing (call : Nat → Fn) : MS :=
    (sSeq (sExpr (mMth mthF call "need_thing" (mVar 0) (mCons (mVar 1) mNil)))
    (sSeq (sIf (mOrT (mTest (mBin (dIn false) (mC (.str "door")) (mBin dIx (mBin dIx (mAttr fldF "rows" (mVar 0)) (mVar 1)) (mC (.int 4))))) (mOrT (mNotT (mTru (mMth mthF call "is_where" (mVar 0) (mCons (mVar 2) mNil)))) (mTru (mMth mthF call "would_ring" (mVar 0) (mCons (mVar 1) (mCons (mVar 2) mNil)))))) (sRaise 0) sNil)
    (sSeq (sSto (mVar 2) (mAttr fldF "wheres" (mVar 0)) (mVar 1))
    (sIf (mTest (mBin (dEq true) (mVar 2) (mTup (mCons (mC (.str "with")) mNil)))) (sSto (mC (.bl false)) (mAttr fldF "dressed" (mVar 0)) (mVar 1)) sNil))))
theorem B_M_State_move_thing (call : Nat → Fn) : bodyOf Gx call s_M_State_move_thing N_M_State_move_thing = P_M_State_move_thing call := by kernel_rfl
/-- M_State_set_open -/
noncomputable def P_M_State_set_open (call : Nat → Fn) : MS :=
    (sExpr (mCall 1 (call i__wall) (mCons (mC (.int 6)) mNil)))
theorem B_M_State_set_open (call : Nat → Fn) : bodyOf Gx call s_M_State_set_open N_M_State_set_open = P_M_State_set_open call := by kernel_rfl
/-- M_State_set_worn -/
noncomputable def P_M_State_set_worn (call : Nat → Fn) : MS :=
    (sExpr (mCall 1 (call i__wall) (mCons (mC (.int 7)) mNil)))
theorem B_M_State_set_worn (call : Nat → Fn) : bodyOf Gx call s_M_State_set_worn N_M_State_set_worn = P_M_State_set_worn call := by kernel_rfl
/-- M_State_set_number -/
noncomputable def P_M_State_set_number (call : Nat → Fn) : MS :=
    (sSeq (sExpr (mMth mthF call "number_of" (mVar 0) (mCons (mVar 1) mNil)))
    (sSeq (sIf (mOrT (mNotT (mTru (mIsi ["int"] (mVar 2)))) (mOrT (mTru (mIsi ["bool"] (mVar 2))) (mNotT (mTest (mChain dLe dLe (mC (.int 0)) (mVar 2) (mC c_MOST_NUMBER)))))) (sRaise 0) sNil)
    (sSto (mVar 2) (mAttr fldF "counts" (mVar 0)) (mVar 1))))
theorem B_M_State_set_number (call : Nat → Fn) : bodyOf Gx call s_M_State_set_number N_M_State_set_number = P_M_State_set_number call := by kernel_rfl
/-- M_State_go_to -/
noncomputable def P_M_State_go_to (call : Nat → Fn) : MS :=
    (sExpr (mCall 1 (call i__wall) (mCons (mC (.int 8)) mNil)))
theorem B_M_State_go_to (call : Nat → Fn) : bodyOf Gx call s_M_State_go_to N_M_State_go_to = P_M_State_go_to call := by kernel_rfl
/-- M_State_next_turn -/
noncomputable def P_M_State_next_turn (call : Nat → Fn) : MS :=
    (sExpr (mCall 1 (call i__wall) (mCons (mC (.int 9)) mNil)))
theorem B_M_State_next_turn (call : Nat → Fn) : bodyOf Gx call s_M_State_next_turn N_M_State_next_turn = P_M_State_next_turn call := by kernel_rfl
/-- M_State_told -/
noncomputable def P_M_State_told (call : Nat → Fn) : MS :=
    (sSeq (sAsg (mApp dTuple (mCons (mLock (mAttr fldF "lids" (mVar 0)) (mLc false (mKeys (mAttr fldF "lids" (mVar 0))) (.one 2) [2] (mTru (mBin dIx (mAttr fldF "lids" (mVar 0)) (mVar 2))) (mVar 2))) mNil)) (.one 1))
    (sSeq (sAsg (mApp dTuple (mCons (mLock (mAttr fldF "dressed" (mVar 0)) (mLc false (mKeys (mAttr fldF "dressed" (mVar 0))) (.one 2) [2] (mTru (mBin dIx (mAttr fldF "dressed" (mVar 0)) (mVar 2))) (mVar 2))) mNil)) (.one 3))
    (sRet (mTup (mCons (mAttr fldF "spot" (mVar 0)) (mCons (mAttr fldF "moment" (mVar 0)) (mCons (mApp dTuple (mCons (mUn (dVals false) (mAttr fldF "wheres" (mVar 0))) mNil)) (mCons (mVar 1) (mCons (mVar 3) (mCons (mApp dTuple (mCons (mUn (dVals false) (mAttr fldF "counts" (mVar 0))) mNil)) mNil))))))))))
theorem B_M_State_told (call : Nat → Fn) : bodyOf Gx call s_M_State_told N_M_State_told = P_M_State_told call := by kernel_rfl
/-- M_State_copied -/
noncomputable def P_M_State_copied (call : Nat → Fn) : MS :=
    (sExpr (mCall 1 (call i__wall) (mCons (mC (.int 10)) mNil)))
theorem B_M_State_copied (call : Nat → Fn) : bodyOf Gx call s_M_State_copied N_M_State_copied = P_M_State_copied call := by kernel_rfl
/-- M_World___init__ -/
noncomputable def P_M_World___init__ (call : Nat → Fn) : MS :=
    (sSeq (sAtr fldF "told_places" (mApp (dList false) (mCons (mVar 1) mNil)) (mVar 0))
    (sSeq (sAtr fldF "told_things" (mApp (dList false) (mCons (mVar 2) mNil)) (mVar 0))
    (sSeq (sAtr fldF "told_ways" (mApp (dList false) (mCons (mVar 3) mNil)) (mVar 0))
    (sSeq (sAtr fldF "told_states" (mApp (dList false) (mCons (mVar 4) mNil)) (mVar 0))
    (sSeq (sAtr fldF "told_rules" (mApp (dList false) (mCons (mVar 5) mNil)) (mVar 0))
    (sSeq (sAtr fldF "told_everies" (mApp (dList false) (mCons (mVar 6) mNil)) (mVar 0))
    (sSeq (sAtr fldF "told_scenes" (mApp (dList false) (mCons (mVar 7) mNil)) (mVar 0))
    (sAtr fldF "told_ends" (mApp (dList false) (mCons (mVar 8) mNil)) (mVar 0)))))))))
theorem B_M_World___init__ (call : Nat → Fn) : bodyOf Gx call s_M_World___init__ N_M_World___init__ = P_M_World___init__ call := by kernel_rfl
/-- M_World_told -/
noncomputable def P_M_World_told (call : Nat → Fn) : MS :=
    (sSeq (sAsg (mTup (mCons (mApp (dList false) (mCons (mAttr fldF "told_places" (mVar 0)) mNil)) (mCons (mApp (dList false) (mCons (mAttr fldF "told_things" (mVar 0)) mNil)) (mCons (mApp (dList false) (mCons (mAttr fldF "told_ways" (mVar 0)) mNil)) (mCons (mApp (dList false) (mCons (mAttr fldF "told_states" (mVar 0)) mNil)) mNil))))) (.one 1))
    (sRet (mBin (dAdd false) (mVar 1) (mTup (mCons (mApp (dList false) (mCons (mAttr fldF "told_rules" (mVar 0)) mNil)) (mCons (mApp (dList false) (mCons (mAttr fldF "told_everies" (mVar 0)) mNil)) (mCons (mApp (dList false) (mCons (mAttr fldF "told_scenes" (mVar 0)) mNil)) (mCons (mApp (dList false) (mCons (mAttr fldF "told_ends" (mVar 0)) mNil)) mNil))))))))
theorem B_M_World_told (call : Nat → Fn) : bodyOf Gx call s_M_World_told N_M_World_told = P_M_World_told call := by kernel_rfl
end K20
namespace K20
open PySem L2 Mi
local macro_rules
  | `(tactic| simp_arith [$ts,*]) => `(tactic| simp (disch := first | assumption | omega | (simp only [List.length_cons, List.length_nil, List.length_map, List.length_append]; done) | (simp only [List.length_cons, List.length_nil, List.length_map, List.length_append]; omega)) only [↓reduceIte, r_seq, seq_nx, seq_rt, seq_no, seq_ex, seq_bk, seq_ct, OS_turn_nx, OS_turn_ct, OS_turn_rt, OS_turn_bk, turn_ex, O_bind_ok, O_bind_ex, O_bind_no, O_toS_ok, O_toS_ex, O_toS_no, O_strict_ok, r_var0, r_varS, r_C, r_nil, r_un, r_app, r_lst, r_tup, r_yes, r_nopart, r_snil, r_break, r_cont, r_retN, q_bin, q_bin2, q_cons, q_cons1, q_cons2, q_meth, q_meth1, q_tru, q_tru1, q_truO, q_test, q_test1, q_notT, q_notT1, q_andT, q_andTt, q_andTf, q_orT, q_orTt, q_orTf, q_ifE, q_ifT, q_iteT, q_iteF, q_andV, q_andV1, q_andOt, q_andOf, q_orV, q_orV1, q_orOt, q_orOf, q_notV, q_notV1, q_notO, q_chain, q_chain1, q_chain2, q_chain3t, q_chain3f, q_part, q_part1, q_sl, q_sl1, q_sl2, q_sl3, q_items, q_items1, q_srcO, q_enum, q_enum1, q_enumO, q_pnil, q_pair, q_pair1, q_pair2, q_pair3, q_disp, q_zip, q_zip1, q_zip2, zipS_tt, zipS_ll, q_range1, q_range11, q_range2, q_range21, q_range3, q_isi, q_isi1, q_isiO, q_isc, q_isc1, q_iscO, q_call, q_call1, q_attr, q_attr1, q_attrO, q_attrO2, q_mth, q_mth1, q_mthO, q_mth2, q_mth3, q_make, q_make1, q_asg, q_asg1, q_asgO, q_expr, q_expr1, q_ret, q_ret1, q_if, q_ift, q_iff, q_whilet, q_whilef, q_atr, q_atr1, q_atr2, q_aa1, q_aa2, q_aa3, q_aa4, q_step, q_step1, q_step2, insAt_ref, q_insO, setAt_ref, q_setO, isNonO_non, putD, bindT, setD, wipeD, List.map_cons, List.map_nil, List.replicate, List.set_cons_zero, List.set_cons_succ, List.cons_append, List.nil_append, List.append_nil, List.length_cons, List.length_nil, Nat.reduceAdd, Nat.reduceSub, Nat.reduceEqDiff, Nat.reduceLT, Int.reduceLT, Int.reduceLE, Int.reduceEq, Nat.zero_add, Nat.add_zero, e_ints, e_bls, e_strs, sgnT, sgnF, l_ints, a_ints, s_ints, tru_bl, len_str, ty_str, ty_int, ty_bl, ty_non, ty_lst, ty_tup, ty_frz, ty_dct, tyOf_ref, lt_ii, gt_ii, ge_ii, neg_i, is_non, isNon_non, isNon_str, isNon_lst, isNon_tup, isNon_ref, isNon_int, lstOf_ref, lstOf_lst, lstOf_frz, seqOf_tup, seqOf_frz, seqOf_lst, seqOf_ref, listOf_frz, listOf_lst, listOf_ref, listG_frz, listG_lst, listG_ref, items_lst, items_frz, items_tup, items_str, items_ref, rdOf_ref, rdOf_lst, rdOf_tup, rdOf_frz, rdOf_str, rdOf_dct, dctOf_ref, dctOf_lst, dctOf_tup, dctOf_frz, dctOf_str, dctOf_dct, len_lst, len_tup, len_frz, len_ref, list_any, tuple_tup, tuple_lst, tuple_frz, tuple_ref, int_int, int_bl, mkL_t, mkL_f, mkT_ok, append_ref, clear_ref, if_sz, tyD_ref, tyD_str, tyD_lst, add_lr, add_rl, add_rr, add_ll, add_tt, add_ss, mod_ii, div_ii, mul_ii, List.lookup_cons, beq_self_eq_true, Bool.and_true, Bool.true_and, Bool.or_true, Bool.true_or, Bool.false_or, Bool.or_false, Bool.false_and, Bool.and_false, Bool.not_true, Bool.not_false, Bool.false_eq_true, Bool.true_eq_false, Option.isSome_some, Option.isSome_none, Option.map_some, Option.map_none, decide_true, decide_false, if_true, if_false, get_at, get_at_add, set_at, set_at_add, List.append_assoc, List.getElem?_cons_zero, List.getElem?_cons_succ, in_tup, in_lst, and_true, true_and, and_self, $ts,*])
noncomputable abbrev cF (n i : Nat) : Fn := callF Gx Tx n i
theorem cf {n i : Nat} {fe : FE} (h : Tx[i]? = some fe) {P : (Nat → Fn) → MS} (hb : ∀ call, bodyOf Gx call fe.sd fe.N = P call) {ds : List D} {st : Store} : cF (n + 1) i ds st = runF fe.N.length fe.fzd (P (cF n)) ds st := by
  show callF Gx Tx (n + 1) i ds st = _
  rw [callF_at h, hb]
/-- nothing changed, told as it is -/
theorem cp {n i : Nat} {fe : FE} (h : Tx[i]? = some fe) (hz : fe.fzd = true) {P : (Nat → Fn) → MS} (hb : ∀ call, bodyOf Gx call fe.sd fe.N = P call) {ds : List D} {st : Store} {d : D} (r : P (cF n) (startD fe.N.length ds) st = .rt d st) (hf : fz 64 st.length st d = some d) : cF (n + 1) i ds st = .ok d st := by
  rw [cf h hb, hz, runF_pure r hf]
/-- .. with what was made within cut off -/
theorem cc {n i : Nat} {fe : FE} (h : Tx[i]? = some fe) (hz : fe.fzd = true) {P : (Nat → Fn) → MS} (hb : ∀ call, bodyOf Gx call fe.sd fe.N = P call) {ds : List D} {st : Store} {ext : Store} {d d' : D} (r : P (cF n) (startD fe.N.length ds) st = .rt d (st ++ ext)) (hf : fz 64 st.length (st ++ ext) d = some d') : cF (n + 1) i ds st = .ok d' st := by
  rw [cf h hb, hz, runF_cut r hf]
/-- .. kept -/
theorem ck {n i : Nat} {fe : FE} (h : Tx[i]? = some fe) (hz : fe.fzd = false) {P : (Nat → Fn) → MS} (hb : ∀ call, bodyOf Gx call fe.sd fe.N = P call) {ds : List D} {st st' : Store} {d : D} (r : P (cF n) (startD fe.N.length ds) st = .rt d st') : cF (n + 1) i ds st = .ok d st' := by
  rw [cf h hb, hz, runF_keep r]
/-- .. without a return -/
theorem cn {n i : Nat} {fe : FE} (h : Tx[i]? = some fe) (hz : fe.fzd = false) {P : (Nat → Fn) → MS} (hb : ∀ call, bodyOf Gx call fe.sd fe.N = P call) {ds : List D} {st st' : Store} {ρ : Rho} (r : P (cF n) (startD fe.N.length ds) st = .nx ρ st') : cF (n + 1) i ds st = .ok .non st' := by
  rw [cf h hb, hz]
  unfold runF
  rw [r]
  rfl
theorem cpn {n i : Nat} {fe : FE} (h : Tx[i]? = some fe) (hz : fe.fzd = true) {P : (Nat → Fn) → MS} (hb : ∀ call, bodyOf Gx call fe.sd fe.N = P call) {ds : List D} {st : Store} {ρ : Rho} (r : P (cF n) (startD fe.N.length ds) st = .nx ρ st) : cF (n + 1) i ds st = .ok .non st := by
  rw [cf h hb, hz]
  unfold runF
  rw [r]
  show retF true st .non st = _
  unfold retF
  rw [if_pos rfl, if_pos List.take_length]
  rfl
variable {n : Nat} {st : Store}
/-- what was there stays, but where p is so -/
structure Gr (p : Nat → Prop) (st st' : Store) : Prop where
  len : st.length ≤ st'.length
  same : ∀ k, k < st.length → ¬ p k → st'[k]? = st[k]?
theorem Gr.refl {p : Nat → Prop} : Gr p st st := ⟨Nat.le_refl _, fun _ _ _ => rfl⟩
theorem Gr.trans {p : Nat → Prop} {a b c : Store} (h : Gr p a b) (g : Gr p b c) : Gr p a c := ⟨Nat.le_trans h.len g.len, fun k hk hp => (g.same k (Nat.lt_of_lt_of_le hk h.len) hp).trans (h.same k hk hp)⟩
theorem Gr.imp {p q : Nat → Prop} {a b : Store} (h : Gr p a b) (w : ∀ k, k < a.length → p k → q k) : Gr q a b := ⟨h.len, fun k hk hp => h.same k hk fun z => hp (w k hk z)⟩
theorem Gr.set {p : Nat → Prop} {i : Nat} {o : Ob} (h : p i) : Gr p st (st.set i o) := ⟨by rw [List.length_set]; exact Nat.le_refl _, fun k _ hp => List.getElem?_set_ne fun e => hp (by rw [← e]; exact h)⟩
theorem Gr.app {p : Nat → Prop} {l : List Ob} : Gr p st (st ++ l) := ⟨by rw [List.length_append]; omega, fun k hk _ => List.getElem?_append_left hk⟩
theorem lt_of_get {i : Nat} {o : Ob} (h : st[i]? = some o) : i < st.length := (List.getElem?_eq_some_iff.mp h).1
theorem Gr.new {p : Nat → Prop} {j : Nat} {a b c : Store} (h : Gr p a b) (g : Gr (fun k => p k ∨ k = j) b c) (hj : a.length ≤ j) : Gr p a c := ⟨Nat.le_trans h.len g.len, fun k hk hp => (g.same k (Nat.lt_of_lt_of_le hk h.len) fun z => z.elim hp fun e => absurd hk (by omega)).trans (h.same k hk hp)⟩
theorem fuel_is : loopFuel = 100000 := rfl
theorem sum_le (ws : List Str) (k : Nat) (h : ∀ w ∈ ws, w.length ≤ k) : (ws.map (·.length)).sum ≤ ws.length * k := by
  induction ws with
  | nil => simp
  | cons w r ih =>
    have h1 := h w (List.mem_cons_self ..)
    have h2 := ih fun v hv => h v (List.mem_cons_of_mem _ hv)
    rw [List.map_cons, List.sum_cons, List.length_cons, Nat.succ_mul]
    omega
theorem spC_len (c : Nat) : ∀ l : List Nat, (spC c l).length ≤ l.length + 1
  | [] => by simp [spC]
  | x :: r => by
    have ih := spC_len c r
    unfold spC
    split
    · simp only [List.length_cons]; omega
    · split
      · rename_i e; rw [e] at ih; simp only [List.length_cons] at *; omega
      · simp only [List.length_cons, List.length_nil]; omega
theorem splitS_len (s : Str) : (splitS 32 s).length ≤ s.length + 1 := by
  unfold splitS
  rw [List.length_map]
  exact Nat.le_trans (spC_len _ _) (by rw [Array.length_toList]; exact Nat.le_refl _)
theorem split_run {m : Bool} {s : Str} (h : s.length ≤ 100000) : dSplit m (.str s) [.str " "] st = mkL m (Ss (splitS 32 s)) st := by
  show (if 32 < 256 ∧ s.length + 2 ≤ sizeLine then mkL m ((splitS 32 s).map D.str) st else .no) = _
  rw [if_pos ⟨by decide, by unfold sizeLine; omega⟩]
theorem fz_lst {m : Nat} (ys : List Str) : fz 64 m st (.lst (Ss ys)) = some (.lst (Ss ys)) := by
  show (sq ((Ss ys).map (fz 63 m st))).map D.lst = _
  rw [fz_strs]; rfl
theorem mul_big {m : Bool} {i j : Int} (h : 0 ≤ i ∧ i < 2 ^ 190) (h2 : 0 ≤ j ∧ j < 2 ^ 190) : dMul m (.int i) (.int j) st = .ok (.int (i * j)) st := by
  unfold dMul
  dsimp only
  rw [if_pos (.inr (.inr ⟨by omega, by omega⟩))]
/-- a text out of a row -/
theorem pick_run {ws : List Str} {m : Int} {L : Int} (hL : (ws.length : Int) = L) (h0 : 0 < L) : dIx (.lst (Ss ws)) (.int (m % L)) st = .ok (.str (ws.getD (m % L).toNat "")) st := by
  have h1 : 0 ≤ m % L ∧ m % L < L := ⟨Int.emod_nonneg _ (by omega), Int.emod_lt_of_pos _ h0⟩
  rw [ix_lst h1.1 (by rw [List.length_map]; omega), getD_strs (by omega)]
theorem pick_mem {ws : List Str} {m : Int} {L : Int} (hL : (ws.length : Int) = L) (h0 : 0 < L) : ws.getD (m % L).toNat "" ∈ ws := by
  have h1 : 0 ≤ m % L ∧ m % L < L := ⟨Int.emod_nonneg _ (by omega), Int.emod_lt_of_pos _ h0⟩
  rw [List.getD_eq_getElem?_getD, List.getElem?_eq_getElem (by omega)]
  exact List.getElem_mem _
theorem for_nil {t : Tgt} {b : MS} {ρ : Rho} : forGo [] t b [] ρ st = .nx ρ st := by
  unfold forGo; rw [if_pos (guard_nil _)]
theorem for_one {i : Nat} {b : MS} {ρ : Rho} {d : D} {r : List D} : forGo [] (.one i) b (d :: r) ρ st = (b (ρ.set i (some d)) st).turn (forGo [] (.one i) b r) := by
  show (if guard [] st = true then (b (ρ.set i (some d)) st).turn (forGo [] (.one i) b r) else OS.no) = _
  rw [if_pos (guard_nil _)]
theorem for_many {is : List Nat} {b : MS} {ρ : Rho} {ds r : List D} (h : ds.length = is.length) : forGo [] (.many is) b (.tup ds :: r) ρ st = (b (setD is ds ρ) st).turn (forGo [] (.many is) b r) := by
  show (if guard [] st = true then (match (if ds.length = is.length then some (setD is ds ρ) else none) with | none => OS.no | some ρ1 => (b ρ1 st).turn (forGo [] (.many is) b r)) else OS.no) = _
  rw [if_pos (guard_nil _), if_pos h]
theorem rangeD_eq (k : Nat) : rangeD 0 k = (List.range k).map fun (i : Nat) => D.int (i : Int) := by
  unfold rangeD
  congr 1; funext i; rw [Int.zero_add]
theorem fz_pair {m : Nat} (x y : List Str) : fz 64 m st (.tup [.lst (Ss x), .tup (Ss y)]) = some (.tup [.lst (Ss x), .tup (Ss y)]) := by
  show (sq [fz 63 m st (.lst (Ss x)), fz 63 m st (.tup (Ss y))]).map D.tup = _
  have h1 : fz 63 m st (.lst (Ss x)) = some (.lst (Ss x)) := by show (sq ((Ss x).map (fz 62 m st))).map D.lst = _; rw [fz_strs]; rfl
  have h2 : fz 63 m st (.tup (Ss y)) = some (.tup (Ss y)) := by show (sq ((Ss y).map (fz 62 m st))).map D.tup = _; rw [fz_strs]; rfl
  rw [h1, h2]; rfl
theorem the_run {k : Int} (h : 0 ≤ k ∧ k < 2) (w : Str) : ∃ t, (t = [] ∨ t = [w]) ∧ ∀ st : Store, dMul false (.lst [.str w]) (.int k) st = .ok (.lst (Ss t)) st := by
  have : k = 0 ∨ k = 1 := by omega
  rcases this with rfl | rfl
  · exact ⟨[], .inl rfl, fun st => mul_lst (st := st) (m := false) (xs := [.str w]) (k := 0) (by omega) (by simp)⟩
  · exact ⟨[w], .inr rfl, fun st => mul_lst (st := st) (m := false) (xs := [.str w]) (k := 1) (by omega) (by simp)⟩
def ifL (b : Bool) (w : Str) : List Str := if b = true then [w] else []
theorem rep_bool (b : Bool) (w : Str) : dMul false (.lst [.str w]) (.int (if b = true then 1 else 0)) st = .ok (.lst (Ss (ifL b w))) st := by
  cases b
  · exact mul_lst (st := st) (m := false) (xs := [.str w]) (k := 0) (by omega) (by simp)
  · exact mul_lst (st := st) (m := false) (xs := [.str w]) (k := 1) (by omega) (by simp)
/-- data without anything to be changed, so deep at most -/
inductive Tr : Nat → D → Prop
  | str (k : Nat) (s : Str) : Tr (k + 1) (.str s)
  | non (k : Nat) : Tr (k + 1) .non
  | int (k : Nat) (i : Int) : Tr (k + 1) (.int i)
  | bl (k : Nat) (b : Bool) : Tr (k + 1) (.bl b)
  | tup {k : Nat} {xs : List D} (h : ∀ x ∈ xs, Tr k x) (hl : xs.length ≤ 1000) : Tr (k + 1) (.tup xs)
  | lst {k : Nat} {xs : List D} (h : ∀ x ∈ xs, Tr k x) (hl : xs.length ≤ 1000) : Tr (k + 1) (.lst xs)
theorem sq_all {f : D → Option D} : ∀ {xs : List D}, (∀ x ∈ xs, f x = some x) → sq (xs.map f) = some xs
  | [], _ => rfl
  | x :: r, h => by
    show sq (f x :: r.map f) = _
    rw [h x (List.mem_cons_self ..)]
    show (sq (r.map f)).map _ = _
    rw [sq_all fun y hy => h y (List.mem_cons_of_mem _ hy)]
    rfl
theorem Tr.fz {k : Nat} {d : D} (h : Tr k d) : ∀ {j m : Nat} {st : Store}, k ≤ j → fz j m st d = some d := by
  induction h with
  | str k s => intro j m st hj; match j, hj with | j + 1, _ => rfl
  | non k => intro j m st hj; match j, hj with | j + 1, _ => rfl
  | int k i => intro j m st hj; match j, hj with | j + 1, _ => rfl
  | bl k b => intro j m st hj; match j, hj with | j + 1, _ => rfl
  | tup h hl ih =>
    intro j m st hj
    match j, hj with
    | j + 1, hj =>
      show (sq (List.map (Mi.fz j m st) _)).map D.tup = _
      rw [sq_all fun x hx => ih x hx (by omega)]
      rfl
  | lst h hl ih =>
    intro j m st hj
    match j, hj with
    | j + 1, hj =>
      show (sq (List.map (Mi.fz j m st) _)).map D.lst = _
      rw [sq_all fun x hx => ih x hx (by omega)]
      rfl
theorem Tr.deep {k : Nat} {d : D} (h : Tr k d) : ∀ {j : Nat} {st : Store}, k ≤ j → deep j st d = some d := by
  induction h with
  | str k s => intro j st hj; match j, hj with | j + 1, _ => rfl
  | non k => intro j st hj; match j, hj with | j + 1, _ => rfl
  | int k i => intro j st hj; match j, hj with | j + 1, _ => rfl
  | bl k b => intro j st hj; match j, hj with | j + 1, _ => rfl
  | tup h hl ih =>
    intro j st hj
    match j, hj with
    | j + 1, hj =>
      show (sq (List.map (Mi.deep j st) _)).map D.tup = _
      rw [sq_all fun x hx => ih x hx (by omega)]
      rfl
  | lst h hl ih =>
    intro j st hj
    match j, hj with
    | j + 1, hj =>
      show (sq (List.map (Mi.deep j st) _)).map D.lst = _
      rw [sq_all fun x hx => ih x hx (by omega)]
      rfl
theorem Tr.mono {k : Nat} {d : D} (h : Tr k d) : Tr (k + 1) d := by
  induction h with
  | str k s => exact .str _ _
  | non k => exact .non _
  | int k i => exact .int _ _
  | bl k b => exact .bl _ _
  | tup h hl ih => exact .tup ih hl
  | lst h hl ih => exact .lst ih hl
theorem Tr.ss (k : Nat) (l : List Str) : ∀ x ∈ Ss l, Tr (k + 1) x := fun x hx => by
  obtain ⟨s, _, rfl⟩ := List.mem_map.mp hx
  exact .str _ _
def Is (ns : List Int) : List D := ns.map D.int
theorem sq_ints {k : Nat} (ys : List Int) : sq ((Is ys).map (deep (k + 1) st)) = some (Is ys) := by
  induction ys with
  | nil => rfl
  | cons y r ih => show (sq ((Is r).map (deep (k + 1) st))).map _ = _; rw [ih]; rfl
/-- a script, or a list made of it -/
def Scr (d : D) (ns : List Int) : Prop := d = .frz (Is ns) ∨ d = .lst (Is ns)
theorem scr_ne {d : D} {ns : List Int} (h : Scr d ns) : dEq true d (.lst []) st = .ok (.bl (!ns.isEmpty)) st := by
  have e : deep 64 st d = some (.lst (Is ns)) := by
    rcases h with rfl | rfl <;> (show (sq ((Is ns).map (deep 63 st))).map _ = _; rw [sq_ints]; rfl)
  unfold dEq
  rw [e]
  show O.ok (D.bl (if true = true then !eqD (.lst (Is ns)) (.lst []) else _)) st = _
  cases ns <;> rfl
theorem scr_len {d : D} {ns : List Int} (h : Scr d ns) : dLen [d] st = .ok (.int ns.length) st := by
  rcases h with rfl | rfl
  · rw [len_frz]; unfold Is; rw [List.length_map]
  · rw [len_lst]; unfold Is; rw [List.length_map]
theorem scr_ix {d : D} {ns : List Int} {i : Int} (h : Scr d ns) (h0 : 0 ≤ i) (h1 : i < ns.length) : dIx d (.int i) st = .ok (.int (ns.getD i.toNat 0)) st := by
  have e : (Is ns).getD i.toNat .non = .int (ns.getD i.toNat 0) := by
    unfold Is
    simp [List.getD_eq_getElem?_getD, List.getElem?_eq_getElem (show i.toNat < ns.length by omega)]
  have h2 : i < ((Is ns).length : Int) := by unfold Is; rw [List.length_map]; exact h1
  rcases h with rfl | rfl
  · rw [ix_frz h0 h2, e]
  · rw [ix_lst h0 h2, e]
theorem fz_ref_lst {k m i : Nat} {xs : List D} (h : ¬ i < m) (hs : st[i]? = some (.lst xs)) : fz (k + 1) m st (.ref i) = (sq (xs.map (fz k m st))).map D.lst := by
  unfold fz
  rw [if_neg h, hs]
theorem zipD_self (xs : List D) : zipD xs xs = xs.map fun x => D.tup [x, x] := by
  unfold zipD
  induction xs with
  | nil => rfl
  | cons x r ih => rw [List.zipWith_cons_cons, ih]; rfl
theorem all_true (xs : List D) : dAllAny true [.lst (xs.map fun _ => D.bl true)] st = .ok (.bl true) st := by
  have : boolsD (xs.map fun _ => D.bl true) = some (xs.map fun _ => true) := boolsD_map (fun _ => true) xs
  simp [dAllAny, Mi.listOf, lstOf, this]
theorem take_gr {st st' : Store} (h : Gr (fun _ => False) st st') : ∃ ext, st' = st ++ ext := by
  refine ⟨st'.drop st.length, ?_⟩
  have : st'.take st.length = st := by
    refine List.ext_getElem? fun k => ?_
    by_cases hk : k < st.length
    · rw [List.getElem?_take_of_lt hk]
      exact h.same k hk id
    · rw [List.getElem?_eq_none (by rw [List.length_take]; omega), List.getElem?_eq_none (by omega)]
  calc st' = st'.take st.length ++ st'.drop st.length := (List.take_append_drop ..).symm
    _ = _ := by rw [this]
theorem cut_ints (ns : List Int) (lo hi : Option Int) : ∃ ms : List Int, cutD (Is ns) lo hi = Is ms ∧ ms.length ≤ ns.length := by
  refine ⟨(ns.drop (HT.sIx (Is ns).length 0 lo)).take (HT.sIx (Is ns).length (Is ns).length hi - HT.sIx (Is ns).length 0 lo), ?_, ?_⟩
  · unfold cutD Is
    rw [List.map_take, List.map_drop]
  · rw [List.length_take, List.length_drop]; omega
theorem sl_frz {ns : List Int} (hl : ns.length ≤ 1000) (lo hi : Option Int) : ∃ ms : List Int, dSl false (.frz (Is ns)) lo hi st = .ok (.lst (Is ms)) st ∧ ms.length ≤ ns.length := by
  obtain ⟨ms, h1, h2⟩ := cut_ints ns lo hi
  refine ⟨ms, ?_, h2⟩
  show mkL false (cutD (Is ns) lo hi) st = _
  rw [h1, mkL_f (by unfold Is; rw [List.length_map]; omega)]
theorem step_frz {ns : List Int} (hl : ns.length ≤ 1000) : dStep false (.frz (Is ns)) (some (-1)) st = .ok (.lst (Is ns.reverse)) st := by
  show mkL false (Is ns).reverse st = _
  rw [mkL_f (by unfold Is; rw [List.length_reverse, List.length_map]; omega)]
  unfold Is
  rw [List.map_reverse]

/-! ### what is drawn -/
def dr0 (c k : Int) : Int := c % 1000000007 + 7919 * k + 13
def dr (c k : Int) : Int := dr0 c k * dr0 c k % 1000000007 * 48271 % 2147483647
theorem dr_nn (c k : Int) : 0 ≤ dr c k := Int.emod_nonneg _ (by decide)
theorem mixed_run {c k : Int} (h0 : 0 ≤ k) (h1 : k ≤ 1000000) : cF (n + 1) i__law_mixed [.int c, .int k] st = .ok (.int (dr c k)) st := by
  refine cp rfl rfl B__law_mixed ?_ rfl
  have e0 : startD N__law_mixed.length [.int c, .int k] = [some (.int c), some (.int k)] := rfl
  have h2 : 0 ≤ c % 1000000007 ∧ c % 1000000007 < 1000000007 := ⟨Int.emod_nonneg _ (by decide), Int.emod_lt_of_pos _ (by decide)⟩
  have e3 : dMod (.int c) (.int 1000000007) st = .ok (.int (c % 1000000007)) st := mod_ii (by decide)
  unfold P__law_mixed dr dr0
  generalize c % 1000000007 = a at *
  have h3 : 0 ≤ (a + 7919 * k + 13) * (a + 7919 * k + 13) % 1000000007 ∧ (a + 7919 * k + 13) * (a + 7919 * k + 13) % 1000000007 < 1000000007 := ⟨Int.emod_nonneg _ (by decide), Int.emod_lt_of_pos _ (by decide)⟩
  have e2 := mul_ii (st := st) (m := false) (i := a + 7919 * k + 13) (j := a + 7919 * k + 13) (by omega)
  have e4 := mul_ii (st := st) (m := false) (i := (a + 7919 * k + 13) * (a + 7919 * k + 13) % 1000000007) (j := 48271) (by omega)
  simp_arith [e0, e3, e2, e4]
theorem ixs_run {s : Str} {i : Int} (h0 : 0 ≤ i) (h1 : i < s.length) : dIx (.str s) (.int i) st = .ok (.str ⟨#[s.cps.toList.getD i.toNat 0]⟩) st := by
  show (match atI s.cps.toList i with
        | some c => O.ok (D.str ⟨#[c]⟩) st
        | none => .no) = _
  rw [atI_get 0 h0 (by rw [Array.length_toList]; exact h1)]
theorem str_len_app (a b : Str) : (a ++ b).length = a.length + b.length := by
  show (a ++ b).cps.size = _
  rw [Str.cps_append, Array.size_append]
  rfl
end K20
namespace K20
open PySem L2 Mi
local macro_rules
  | `(tactic| simp_arith [$ts,*]) => `(tactic| simp (disch := first | assumption | omega | (simp only [List.length_cons, List.length_nil, List.length_map, List.length_append]; done) | (simp only [List.length_cons, List.length_nil, List.length_map, List.length_append]; omega)) only [↓reduceIte, r_seq, seq_nx, seq_rt, seq_no, seq_ex, seq_bk, seq_ct, OS_turn_nx, OS_turn_ct, OS_turn_rt, OS_turn_bk, turn_ex, O_bind_ok, O_bind_ex, O_bind_no, O_toS_ok, O_toS_ex, O_toS_no, O_strict_ok, r_var0, r_varS, r_C, r_nil, r_un, r_app, r_lst, r_tup, r_yes, r_nopart, r_snil, r_break, r_cont, r_retN, q_bin, q_bin2, q_cons, q_cons1, q_cons2, q_meth, q_meth1, q_tru, q_tru1, q_truO, q_test, q_test1, q_notT, q_notT1, q_andT, q_andTt, q_andTf, q_orT, q_orTt, q_orTf, q_ifE, q_ifT, q_iteT, q_iteF, q_andV, q_andV1, q_andOt, q_andOf, q_orV, q_orV1, q_orOt, q_orOf, q_notV, q_notV1, q_notO, q_chain, q_chain1, q_chain2, q_chain3t, q_chain3f, q_part, q_part1, q_sl, q_sl1, q_sl2, q_sl3, q_items, q_items1, q_srcO, q_enum, q_enum1, q_enumO, q_pnil, q_pair, q_pair1, q_pair2, q_pair3, q_disp, q_zip, q_zip1, q_zip2, zipS_tt, zipS_ll, q_range1, q_range11, q_range2, q_range21, q_range3, q_isi, q_isi1, q_isiO, q_isc, q_isc1, q_iscO, q_call, q_call1, q_attr, q_attr1, q_attrO, q_attrO2, q_mth, q_mth1, q_mthO, q_mth2, q_mth3, q_make, q_make1, q_asg, q_asg1, q_asgO, q_expr, q_expr1, q_ret, q_ret1, q_if, q_ift, q_iff, q_whilet, q_whilef, q_atr, q_atr1, q_atr2, q_aa1, q_aa2, q_aa3, q_aa4, q_step, q_step1, q_step2, insAt_ref, q_insO, setAt_ref, q_setO, isNonO_non, putD, bindT, setD, wipeD, List.map_cons, List.map_nil, List.replicate, List.set_cons_zero, List.set_cons_succ, List.cons_append, List.nil_append, List.append_nil, List.length_cons, List.length_nil, Nat.reduceAdd, Nat.reduceSub, Nat.reduceEqDiff, Nat.reduceLT, Int.reduceLT, Int.reduceLE, Int.reduceEq, Nat.zero_add, Nat.add_zero, e_ints, e_bls, e_strs, sgnT, sgnF, l_ints, a_ints, s_ints, tru_bl, len_str, ty_str, ty_int, ty_bl, ty_non, ty_lst, ty_tup, ty_frz, ty_dct, tyOf_ref, lt_ii, gt_ii, ge_ii, neg_i, is_non, isNon_non, isNon_str, isNon_lst, isNon_tup, isNon_ref, isNon_int, lstOf_ref, lstOf_lst, lstOf_frz, seqOf_tup, seqOf_frz, seqOf_lst, seqOf_ref, listOf_frz, listOf_lst, listOf_ref, listG_frz, listG_lst, listG_ref, items_lst, items_frz, items_tup, items_str, items_ref, rdOf_ref, rdOf_lst, rdOf_tup, rdOf_frz, rdOf_str, rdOf_dct, dctOf_ref, dctOf_lst, dctOf_tup, dctOf_frz, dctOf_str, dctOf_dct, len_lst, len_tup, len_frz, len_ref, list_any, tuple_tup, tuple_lst, tuple_frz, tuple_ref, int_int, int_bl, mkL_t, mkL_f, mkT_ok, append_ref, clear_ref, if_sz, tyD_ref, tyD_str, tyD_lst, add_lr, add_rl, add_rr, add_ll, add_tt, add_ss, mod_ii, div_ii, mul_ii, List.lookup_cons, beq_self_eq_true, Bool.and_true, Bool.true_and, Bool.or_true, Bool.true_or, Bool.false_or, Bool.or_false, Bool.false_and, Bool.and_false, Bool.not_true, Bool.not_false, Bool.false_eq_true, Bool.true_eq_false, Option.isSome_some, Option.isSome_none, Option.map_some, Option.map_none, decide_true, decide_false, if_true, if_false, get_at, get_at_add, set_at, set_at_add, List.append_assoc, List.getElem?_cons_zero, List.getElem?_cons_succ, in_tup, in_lst, and_true, true_and, and_self, $ts,*])
variable {n : Nat} {st : Store}
/-! ### rows -/
structure Row where
  name : Str
  noun : Str
  adjs : List Str
  wh : List Str
  trs : List Str
def Row.d (r : Row) : D := .tup [.str r.name, .str r.noun, .tup (Ss r.adjs), .tup (Ss r.wh), .tup (Ss r.trs)]
structure Row.ok (r : Row) : Prop where
  la : r.adjs.length ≤ 2
  lw : r.wh.length ≤ 2
  lt : r.trs.length ≤ 10
def Rs (rows : List Row) : List D := rows.map Row.d
theorem Row.tr {r : Row} (h : r.ok) : Tr 3 r.d := by
  have h1 := h.la
  have h2 := h.lw
  have h3 := h.lt
  refine .tup (fun x hx => ?_) (by simp)
  simp only [List.mem_cons, List.not_mem_nil, or_false] at hx
  rcases hx with rfl | rfl | rfl | rfl | rfl
  · exact .str _ _
  · exact .str _ _
  · exact .tup (Tr.ss 0 _) (by rw [List.length_map]; omega)
  · exact .tup (Tr.ss 0 _) (by rw [List.length_map]; omega)
  · exact .tup (Tr.ss 0 _) (by rw [List.length_map]; omega)
/-- in, of trees -/
theorem in_tr {ng : Bool} {xs : List D} {l : List D} {k j : Nat} (h : Tr k (.tup xs)) (g : Tr j (.lst l)) (hk : k ≤ 64) (hj : j ≤ 64) : dIn ng (.tup xs) (.lst l) st = .ok (.bl (sgn ng (l.any fun y => eqD y (.tup xs)))) st := by
  show (match deep 64 st (.tup xs), deep 64 st (.lst l) with
      | some x, some (.lst ys) => O.ok (D.bl (sgn ng (ys.any fun y => eqD y x))) st
      | _, _ => .no) = _
  rw [h.deep hk, g.deep hj]
theorem for_nilG {g : List (Nat × Ob)} {t : Tgt} {b : MS} {ρ : Rho} (hg : guard g st = true) : forGo g t b [] ρ st = .nx ρ st := by
  unfold forGo; rw [if_pos hg]
theorem for_oneG {g : List (Nat × Ob)} {i : Nat} {b : MS} {ρ : Rho} {d : D} {r : List D} (hg : guard g st = true) : forGo g (.one i) b (d :: r) ρ st = (b (ρ.set i (some d)) st).turn (forGo g (.one i) b r) := by
  show (if guard g st = true then (b (ρ.set i (some d)) st).turn (forGo g (.one i) b r) else OS.no) = _
  rw [if_pos hg]
theorem andO_bl {B : M D} {ρ : Rho} {b c : Bool} (h : B ρ st = .ok (.bl c) st) : kAndO (.bl b) B ρ (some b) st = .ok (.bl (b && c)) st := by
  cases b
  · rfl
  · exact h
theorem tr_ne {l : List D} {k : Nat} (h : Tr k (.lst l)) (hk : k ≤ 64) (ng : Bool) : dEq ng (.lst l) (.lst []) st = .ok (.bl (sgn ng l.isEmpty)) st := by
  unfold dEq
  rw [h.deep hk]
  show O.ok (D.bl (if ng = true then !eqD (.lst l) (.lst []) else eqD (.lst l) (.lst []))) st = _
  cases l <;> cases ng <;> rfl
def Pd (p : Str × Bool) : D := .tup [.str p.1, .bl p.2]
def Ps (pl : List (Str × Bool)) : List D := pl.map Pd
theorem place_pick {pl : List (Str × Bool)} {i : Int} (h : 0 ≤ i ∧ i < pl.length) : ∃ p ∈ pl, ∀ st : Store, dIx (.lst (Ps pl)) (.int i) st = .ok (Pd p) st := by
  have hl : (Ps pl).length = pl.length := by simp [Ps]
  refine ⟨pl[i.toNat]'(by omega), List.getElem_mem _, fun st => ?_⟩
  rw [ix_lst h.1 (by omega), List.getD_eq_getElem?_getD]
  unfold Ps
  rw [List.getElem?_map, List.getElem?_eq_getElem (by omega)]
  rfl
structure Way where
  a : Str
  b : Str
  c : Str
  e : Str
def Way.d (w : Way) : D := .tup [.str w.a, .str w.b, .str w.c, .str w.e]
def Ws (ways : List Way) : List D := ways.map Way.d
theorem Way.tr (w : Way) : Tr 2 w.d := .tup (fun x hx => by
  simp only [List.mem_cons, List.not_mem_nil, or_false] at hx
  rcases hx with rfl | rfl | rfl | rfl <;> exact .str _ _) (by simp)
def Sd (p : Str × Int) : D := .tup [.str p.1, .int p.2]
end K20
namespace K20
open PySem L2 Mi
local macro_rules
  | `(tactic| simp_arith [$ts,*]) => `(tactic| simp (disch := first | assumption | omega | (simp only [List.length_cons, List.length_nil, List.length_map, List.length_append]; done) | (simp only [List.length_cons, List.length_nil, List.length_map, List.length_append]; omega)) only [↓reduceIte, r_seq, seq_nx, seq_rt, seq_no, seq_ex, seq_bk, seq_ct, OS_turn_nx, OS_turn_ct, OS_turn_rt, OS_turn_bk, turn_ex, O_bind_ok, O_bind_ex, O_bind_no, O_toS_ok, O_toS_ex, O_toS_no, O_strict_ok, r_var0, r_varS, r_C, r_nil, r_un, r_app, r_lst, r_tup, r_yes, r_nopart, r_snil, r_break, r_cont, r_retN, q_bin, q_bin2, q_cons, q_cons1, q_cons2, q_meth, q_meth1, q_tru, q_tru1, q_truO, q_test, q_test1, q_notT, q_notT1, q_andT, q_andTt, q_andTf, q_orT, q_orTt, q_orTf, q_ifE, q_ifT, q_iteT, q_iteF, q_andV, q_andV1, q_andOt, q_andOf, q_orV, q_orV1, q_orOt, q_orOf, q_notV, q_notV1, q_notO, q_chain, q_chain1, q_chain2, q_chain3t, q_chain3f, q_part, q_part1, q_sl, q_sl1, q_sl2, q_sl3, q_items, q_items1, q_srcO, q_enum, q_enum1, q_enumO, q_pnil, q_pair, q_pair1, q_pair2, q_pair3, q_disp, q_zip, q_zip1, q_zip2, zipS_tt, zipS_ll, q_range1, q_range11, q_range2, q_range21, q_range3, q_isi, q_isi1, q_isiO, q_isc, q_isc1, q_iscO, q_call, q_call1, q_attr, q_attr1, q_attrO, q_attrO2, q_mth, q_mth1, q_mthO, q_mth2, q_mth3, q_make, q_make1, q_asg, q_asg1, q_asgO, q_expr, q_expr1, q_ret, q_ret1, q_if, q_ift, q_iff, q_whilet, q_whilef, q_atr, q_atr1, q_atr2, q_aa1, q_aa2, q_aa3, q_aa4, q_step, q_step1, q_step2, insAt_ref, q_insO, setAt_ref, q_setO, isNonO_non, putD, bindT, setD, wipeD, List.map_cons, List.map_nil, List.replicate, List.set_cons_zero, List.set_cons_succ, List.cons_append, List.nil_append, List.append_nil, List.length_cons, List.length_nil, Nat.reduceAdd, Nat.reduceSub, Nat.reduceEqDiff, Nat.reduceLT, Int.reduceLT, Int.reduceLE, Int.reduceEq, Nat.zero_add, Nat.add_zero, e_ints, e_bls, e_strs, sgnT, sgnF, l_ints, a_ints, s_ints, tru_bl, len_str, ty_str, ty_int, ty_bl, ty_non, ty_lst, ty_tup, ty_frz, ty_dct, tyOf_ref, lt_ii, gt_ii, ge_ii, neg_i, is_non, isNon_non, isNon_str, isNon_lst, isNon_tup, isNon_ref, isNon_int, lstOf_ref, lstOf_lst, lstOf_frz, seqOf_tup, seqOf_frz, seqOf_lst, seqOf_ref, listOf_frz, listOf_lst, listOf_ref, listG_frz, listG_lst, listG_ref, items_lst, items_frz, items_tup, items_str, items_ref, rdOf_ref, rdOf_lst, rdOf_tup, rdOf_frz, rdOf_str, rdOf_dct, dctOf_ref, dctOf_lst, dctOf_tup, dctOf_frz, dctOf_str, dctOf_dct, len_lst, len_tup, len_frz, len_ref, list_any, tuple_tup, tuple_lst, tuple_frz, tuple_ref, int_int, int_bl, mkL_t, mkL_f, mkT_ok, append_ref, clear_ref, if_sz, tyD_ref, tyD_str, tyD_lst, add_lr, add_rl, add_rr, add_ll, add_tt, add_ss, mod_ii, div_ii, mul_ii, List.lookup_cons, beq_self_eq_true, Bool.and_true, Bool.true_and, Bool.or_true, Bool.true_or, Bool.false_or, Bool.or_false, Bool.false_and, Bool.and_false, Bool.not_true, Bool.not_false, Bool.false_eq_true, Bool.true_eq_false, Option.isSome_some, Option.isSome_none, Option.map_some, Option.map_none, decide_true, decide_false, if_true, if_false, get_at, get_at_add, set_at, set_at_add, List.append_assoc, List.getElem?_cons_zero, List.getElem?_cons_succ, in_tup, in_lst, and_true, true_and, and_self, $ts,*])
variable {n : Nat} {st : Store}
/-! ### dicts by texts -/
section
variable {β : Type}
def kv (f : β → D) (l : List (Str × β)) : List (Key × D) := l.map fun p => (.inr p.1, f p.2)
def gt (l : List (Str × β)) (k : Str) : Option β := (l.find? fun p => decide (p.1 = k)).map (·.2)
def pt (l : List (Str × β)) (k : Str) (v : β) : List (Str × β) := if (l.any fun p => decide (p.1 = k)) = true then l.map (fun p => if p.1 = k then (p.1, v) else p) else l ++ [(k, v)]
def mg (acc l : List (Str × β)) : List (Str × β) := l.foldl (fun a p => pt a p.1 p.2) acc
def ks (l : List (Str × β)) : List Str := l.map (·.1)
theorem val_kv (f : β → D) (k : Str) : ∀ l : List (Str × β), valD (kv f l) (.inr k) = (gt l k).map f
  | [] => rfl
  | p :: r => by
    have ih := val_kv f k r
    unfold valD gt kv at *
    rw [List.map_cons, List.find?_cons, List.find?_cons]
    by_cases h : p.1 = k
    · simp [h]
    · have : ¬ (Sum.inr p.1 : Key) = .inr k := fun z => h (Sum.inr.inj z)
      simp only [h, this, decide_false]
      exact ih
theorem gt_isSome (k : Str) : ∀ l : List (Str × β), (gt l k).isSome = decide (k ∈ ks l)
  | [] => rfl
  | p :: r => by
    have ih := gt_isSome k r
    unfold gt ks at *
    rw [List.find?_cons, List.map_cons]
    by_cases h : p.1 = k
    · simp [h]
    · have h2 : ¬ k = p.1 := fun z => h z.symm
      simp only [h, decide_false, List.mem_cons, h2, false_or]
      exact ih
theorem put_kv (f : β → D) (l : List (Str × β)) (k : Str) (v : β) : putKD (kv f l) (.inr k) (f v) = kv f (pt l k v) := by
  have e : ((kv f l).any fun p => decide (p.1 = (.inr k : Key))) = l.any fun p => decide (p.1 = k) := by
    unfold kv
    rw [List.any_map]
    congr 1
    funext p
    simp only [Function.comp]
    exact decide_eq_decide.mpr ⟨fun z => Sum.inr.inj z, fun z => by rw [z]⟩
  unfold putKD pt
  rw [e]
  split
  · unfold kv
    rw [List.map_map, List.map_map]
    congr 1
    funext p
    simp only [Function.comp]
    by_cases h : p.1 = k
    · simp [h]
    · have : ¬ (Sum.inr p.1 : Key) = .inr k := fun z => h (Sum.inr.inj z)
      rw [if_neg this, if_neg h]
  · simp [kv]
theorem merge_kv (f : β → D) : ∀ (l acc : List (Str × β)), mergeD (kv f acc) (kv f l) = kv f (mg acc l)
  | [], acc => rfl
  | p :: r, acc => by
    show mergeD (putKD (kv f acc) (.inr p.1) (f p.2)) (kv f r) = _
    rw [put_kv, merge_kv f r]
    rfl
theorem pt_new {l : List (Str × β)} {k : Str} {v : β} (h : k ∉ ks l) : pt l k v = l ++ [(k, v)] := by
  unfold pt
  rw [if_neg]
  intro z
  rw [List.any_eq_true] at z
  obtain ⟨p, hp, e⟩ := z
  exact h (List.mem_map.mpr ⟨p, hp, by simpa using e⟩)
theorem mg_nodup : ∀ (l acc : List (Str × β)), (ks (acc ++ l)).Nodup → mg acc l = acc ++ l
  | [], acc, _ => by simp [mg]
  | p :: r, acc, h => by
    have e : acc ++ p :: r = (acc ++ [p]) ++ r := by simp
    have hn : p.1 ∉ ks acc := fun z => by
      unfold ks at h z
      rw [List.map_append, List.nodup_append] at h
      exact h.2.2 _ z p.1 (by simp) rfl
    show mg (pt acc p.1 p.2) r = _
    rw [pt_new hn, mg_nodup r (acc ++ [p]) (by rw [← e]; exact h)]
    simp
theorem ks_pt {l : List (Str × β)} {k : Str} {v : β} (h : k ∈ ks l) : ks (pt l k v) = ks l := by
  unfold pt
  rw [if_pos]
  · unfold ks
    rw [List.map_map]
    apply List.map_congr_left
    intro p _
    simp only [Function.comp]
    split <;> rfl
  · rw [List.any_eq_true]
    obtain ⟨p, hp, e⟩ := List.mem_map.mp h
    exact ⟨p, hp, by simpa using e⟩
theorem gt_pt_same {l : List (Str × β)} {k : Str} {v : β} : gt (pt l k v) k = some v := by
  by_cases h : k ∈ ks l
  · have ha : (l.any fun p => decide (p.1 = k)) = true := by
      rw [List.any_eq_true]
      obtain ⟨p, hp, e⟩ := List.mem_map.mp h
      exact ⟨p, hp, by simpa using e⟩
    unfold pt
    rw [if_pos ha]
    clear ha
    induction l with
    | nil => simp [ks] at h
    | cons p r ih =>
      unfold gt at *
      rw [List.map_cons, List.find?_cons]
      by_cases e : p.1 = k
      · simp [e]
      · have h' : k ∈ ks r := by
          unfold ks at h ⊢
          rw [List.map_cons, List.mem_cons] at h
          exact h.resolve_left fun z => e z.symm
        simp only [e, if_false, decide_false]
        exact ih h'
  · rw [pt_new h]
    unfold gt
    rw [List.find?_append]
    have : l.find? (fun p => decide (p.1 = k)) = none := by
      rw [List.find?_eq_none]
      intro p hp z
      exact h (List.mem_map.mpr ⟨p, hp, by simpa using z⟩)
    rw [this]
    simp
theorem gt_pt_ne {l : List (Str × β)} {k j : Str} {v : β} (hj : j ≠ k) : gt (pt l k v) j = gt l j := by
  by_cases h : k ∈ ks l
  · have ha : (l.any fun p => decide (p.1 = k)) = true := by
      rw [List.any_eq_true]
      obtain ⟨p, hp, e⟩ := List.mem_map.mp h
      exact ⟨p, hp, by simpa using e⟩
    unfold pt
    rw [if_pos ha]
    clear ha h
    induction l with
    | nil => rfl
    | cons p r ih =>
      unfold gt at *
      rw [List.map_cons, List.find?_cons, List.find?_cons]
      by_cases e : p.1 = k
      · have : ¬ k = j := fun z => hj z.symm
        simp only [e, if_true, this, decide_false]
        exact ih
      · simp only [e, if_false]
        by_cases e2 : p.1 = j
        · simp [e2]
        · simp only [e2, decide_false]
          exact ih
  · rw [pt_new h]
    unfold gt
    rw [List.find?_append]
    cases l.find? (fun p => decide (p.1 = j)) with
    | some p => rfl
    | none =>
      have : ¬ k = j := fun z => hj z.symm
      simp [this]
theorem gt_mem {l : List (Str × β)} {k : Str} {v : β} (h : gt l k = some v) : (k, v) ∈ l := by
  unfold gt at h
  obtain ⟨p, h1, h2⟩ := map_some h
  have := List.find?_some h1
  have e : p.1 = k := by simpa using this
  have m := List.mem_of_find?_eq_some h1
  subst h2
  rw [← e]; exact m
theorem gt_some {l : List (Str × β)} {k : Str} (h : k ∈ ks l) : ∃ v, gt l k = some v := by
  have := gt_isSome k l
  rw [decide_eq_true h] at this
  exact Option.isSome_iff_exists.mp this
theorem gt_ks {l : List (Str × β)} {k : Str} {v : β} (h : gt l k = some v) : k ∈ ks l := List.mem_map.mpr ⟨_, gt_mem h, rfl⟩
theorem gt_nodup : ∀ {l : List (Str × β)} {k : Str} {v : β}, (ks l).Nodup → (k, v) ∈ l → gt l k = some v
  | [], _, _, _, h => by simp at h
  | p :: r, k, v, hn, h => by
    unfold ks at hn
    rw [List.map_cons, List.nodup_cons] at hn
    unfold gt
    rw [List.find?_cons]
    rcases List.mem_cons.mp h with e | h
    · subst e; simp
    · have : ¬ p.1 = k := fun z => hn.1 (List.mem_map.mpr ⟨_, h, z.symm⟩)
      simp only [this, decide_false]
      exact gt_nodup hn.2 h
theorem kv_len (f : β → D) (l : List (Str × β)) : (kv f l).length = l.length := List.length_map _
theorem pt_len (l : List (Str × β)) (k : Str) (v : β) (h : k ∈ ks l) : (pt l k v).length = l.length := by
  have := congrArg List.length (ks_pt (v := v) h)
  unfold ks at this
  rwa [List.length_map, List.length_map] at this
end
theorem pairs_kv {β : Type} (f : β → D) : ∀ l : List (Str × β), pairsD (l.map fun p => .tup [.str p.1, f p.2]) = some (kv f l)
  | [] => rfl
  | p :: r => by
    show (match keyD (.str p.1), pairsD (r.map fun p => .tup [.str p.1, f p.2]) with
      | some k, some kvs => some ((k, f p.2) :: kvs)
      | _, _ => none) = _
    rw [pairs_kv f r]
    rfl
theorem made_kv {β : Type} (f : β → D) (l : List (Str × β)) (hl : l.length ≤ 1000) (hm : (mg [] l).length ≤ 1000) : dDict true [.lst (l.map fun p => .tup [.str p.1, f p.2])] st = .ok (.ref st.length) (st ++ [.dct (kv f (mg [] l))]) := by
  rw [made_of (pairs_kv f l), show ([] : List (Key × D)) = kv f [] from rfl, merge_kv]
  unfold mkD
  rw [if_pos (by rw [kv_len]; unfold sizeLine; omega), if_pos rfl]
theorem madeF_kv {β : Type} (f : β → D) (l : List (Str × β)) (hl : l.length ≤ 1000) (hm : (mg [] l).length ≤ 1000) : dDict false [.lst (l.map fun p => .tup [.str p.1, f p.2])] st = .ok (.dct (kv f (mg [] l))) st := by
  rw [made_of (pairs_kv f l), show ([] : List (Key × D)) = kv f [] from rfl, merge_kv]
  unfold mkD
  rw [if_pos (by rw [kv_len]; unfold sizeLine; omega), if_neg (by decide)]
theorem mg_len {β : Type} : ∀ (l acc : List (Str × β)), (mg acc l).length ≤ acc.length + l.length
  | [], acc => by simp [mg]
  | p :: r, acc => by
    have h1 := mg_len r (pt acc p.1 p.2)
    have h2 : (pt acc p.1 p.2).length ≤ acc.length + 1 := by
      unfold pt
      split
      · rw [List.length_map]; omega
      · simp
    have e : mg acc (p :: r) = mg (pt acc p.1 p.2) r := rfl
    rw [e, List.length_cons]; omega
/-- d[k] of a text -/
theorem ix_kv {β : Type} {f : β → D} {l : List (Str × β)} {d : D} {k : Str} {v : β} (h : rdOf st d = some (kv f l)) (hv : gt l k = some v) : dIx d (.str k) st = .ok (f v) st := ix_of h (by rw [val_kv, hv]; rfl)
theorem in_kv {β : Type} {f : β → D} {l : List (Str × β)} {i : Nat} {k : Str} {ng : Bool} (h : rdOf st (.ref i) = some (kv f l)) : dIn ng (.str k) (.ref i) st = .ok (.bl (sgn ng (decide (k ∈ ks l)))) st := by
  show (match rdOf st (.ref i) with
    | some kvs => match keyD (.str k) with
      | some k => O.ok (D.bl (sgn ng (valD kvs k).isSome)) st
      | none => .no
    | none => match deep 64 st (.str k), deep 64 st (.ref i) with
      | some x, some (.lst ys) => O.ok (D.bl (sgn ng (ys.any fun y => eqD y x))) st
      | _, _ => .no) = _
  rw [h]
  show O.ok (D.bl (sgn ng (valD (kv f l) (.inr k)).isSome)) st = _
  rw [val_kv, Option.isSome_map, gt_isSome]
theorem inD_kv {β : Type} {f : β → D} {l : List (Str × β)} {k : Str} {ng : Bool} : dIn ng (.str k) (.dct (kv f l)) st = .ok (.bl (sgn ng (decide (k ∈ ks l)))) st := by
  show O.ok (D.bl (sgn ng (valD (kv f l) (.inr k)).isSome)) st = _
  rw [val_kv, Option.isSome_map, gt_isSome]
theorem sto_kv {β : Type} {f : β → D} {l : List (Str × β)} {i : Nat} {k : Str} {v : β} {ρ : Rho} (h : st[i]? = some (.dct (kv f l))) (hl : l.length ≤ 1000) : stoAt (f v) (.str k) st ρ (.ref i) = .nx ρ (st.set i (.dct (kv f (pt l k v)))) := by
  rw [sto_str h (by rw [kv_len]; omega), put_kv]
theorem vals_kv' {β : Type} {f : β → D} {l : List (Str × β)} {i : Nat} (h : st[i]? = some (.dct (kv f l))) (hl : l.length ≤ 1000) : dVals false (.ref i) st = .ok (.lst (l.map fun p => f p.2)) st := by
  unfold dVals
  rw [dct_ref h]
  dsimp only
  have e : (kv f l).map (·.2) = l.map fun p => f p.2 := by unfold kv; rw [List.map_map]; rfl
  rw [e, mkL_f (by rw [List.length_map]; omega)]
theorem copy_kv {β : Type} {f : β → D} {l : List (Str × β)} {i : Nat} (h : st[i]? = some (.dct (kv f l))) (hl : l.length ≤ 1000) : dDict true [.ref i] st = .ok (.ref st.length) (st ++ [.dct (kv f l)]) := by
  rw [copy_of (dct_ref h)]
  unfold mkD
  rw [if_pos (by rw [kv_len]; unfold sizeLine; omega), if_pos rfl]
theorem list_kv {β : Type} {f : β → D} {l : List (Str × β)} {i : Nat} (h : st[i]? = some (.dct (kv f l))) (hl : l.length ≤ 1000) : dList false [.ref i] st = .ok (.lst (Ss (ks l))) st := by
  rw [list_any, seqOf_ref, lstOf_ref, h]
  dsimp only
  rw [dct_ref h]
  dsimp only
  have e : ((kv f l).map fun p => unK p.1) = Ss (ks l) := by unfold kv ks; rw [List.map_map]; show _ = List.map D.str (List.map _ _); rw [List.map_map]; rfl
  rw [e, mkL_f (by rw [List.length_map]; unfold ks; rw [List.length_map]; omega)]
theorem keys_kv {β : Type} (f : β → D) (l : List (Str × β)) : ((kv f l).map fun p => unK p.1) = Ss (ks l) := by unfold kv ks; rw [List.map_map]; show _ = List.map D.str (List.map _ _); rw [List.map_map]; rfl
/-- a walk over a locked dict's keys -/
theorem lock_kv {β : Type} {f : β → D} {l : List (Str × β)} {i : Nat} {a : M D} {t : Tgt} {vs : List Nat} {c : M Bool} {e : M D} {p : Str → Bool} {g : Str → D} {ρ : Rho} (h : st[i]? = some (.dct (kv f l))) (hl : l.length ≤ 1000)
    (ha : a ρ st = .ok (.ref i) st) (ha2 : a ρ (st.set i (.lck (kv f l))) = .ok (.ref i) (st.set i (.lck (kv f l))))
    (hb : ∀ x ∈ ks l, ∃ ρ1, bindT t (.str x) (wipeD ρ vs) = some ρ1 ∧ c ρ1 (st.set i (.lck (kv f l))) = .ok (p x) (st.set i (.lck (kv f l))) ∧ (p x = true → e ρ1 (st.set i (.lck (kv f l))) = .ok (g x) (st.set i (.lck (kv f l))))) :
    mLock a (mLc false (mKeys a) t vs c e) ρ st = .ok (.lst (((ks l).filter p).map g)) st := by
  have hi := lt_of_get h
  have q : (st.set i (.lck (kv f l)))[i]? = some (.lck (kv f l)) := List.getElem?_set_self hi
  have hp : pickK a ρ st = some (i, kv f l) := by
    unfold pickK
    rw [ha]
    dsimp only
    rw [h]
  have hk : mKeys a ρ (st.set i (.lck (kv f l))) = .ok ⟨(ks l).map D.str, [(i, .lck (kv f l))]⟩ (st.set i (.lck (kv f l))) := by
    unfold mKeys
    rw [ha2, O_bind_ok]
    dsimp only
    rw [q]
    dsimp only
    rw [keys_kv]
  unfold mLock
  rw [hp]
  dsimp only
  rw [mLc_map (enc := D.str) (xs := ks l) hk (guard_one.mpr q) (by unfold ks; rw [List.length_map]; unfold sizeLine; omega) hb]
  unfold unO
  dsimp only
  rw [if_pos q, List.set_set]
  have : st.set i (.dct (kv f l)) = st := by
    refine List.ext_getElem? fun j => ?_
    by_cases e : i = j
    · subst e; rw [List.getElem?_set_self hi]; exact h.symm
    · rw [List.getElem?_set_ne e]
  rw [this]
end K20
namespace K20
open PySem L2 Mi
local macro_rules
  | `(tactic| simp_arith [$ts,*]) => `(tactic| simp (disch := first | assumption | omega | (simp only [List.length_cons, List.length_nil, List.length_map, List.length_append]; done) | (simp only [List.length_cons, List.length_nil, List.length_map, List.length_append]; omega)) only [↓reduceIte, r_seq, seq_nx, seq_rt, seq_no, seq_ex, seq_bk, seq_ct, OS_turn_nx, OS_turn_ct, OS_turn_rt, OS_turn_bk, turn_ex, O_bind_ok, O_bind_ex, O_bind_no, O_toS_ok, O_toS_ex, O_toS_no, O_strict_ok, r_var0, r_varS, r_C, r_nil, r_un, r_app, r_lst, r_tup, r_yes, r_nopart, r_snil, r_break, r_cont, r_retN, q_bin, q_bin2, q_cons, q_cons1, q_cons2, q_meth, q_meth1, q_tru, q_tru1, q_truO, q_test, q_test1, q_notT, q_notT1, q_andT, q_andTt, q_andTf, q_orT, q_orTt, q_orTf, q_ifE, q_ifT, q_iteT, q_iteF, q_andV, q_andV1, q_andOt, q_andOf, q_orV, q_orV1, q_orOt, q_orOf, q_notV, q_notV1, q_notO, q_chain, q_chain1, q_chain2, q_chain3t, q_chain3f, q_part, q_part1, q_sl, q_sl1, q_sl2, q_sl3, q_items, q_items1, q_srcO, q_enum, q_enum1, q_enumO, q_pnil, q_pair, q_pair1, q_pair2, q_pair3, q_disp, q_zip, q_zip1, q_zip2, zipS_tt, zipS_ll, q_range1, q_range11, q_range2, q_range21, q_range3, q_isi, q_isi1, q_isiO, q_isc, q_isc1, q_iscO, q_call, q_call1, q_attr, q_attr1, q_attrO, q_attrO2, q_mth, q_mth1, q_mthO, q_mth2, q_mth3, q_make, q_make1, q_asg, q_asg1, q_asgO, q_expr, q_expr1, q_ret, q_ret1, q_if, q_ift, q_iff, q_whilet, q_whilef, q_atr, q_atr1, q_atr2, q_aa1, q_aa2, q_aa3, q_aa4, q_step, q_step1, q_step2, insAt_ref, q_insO, setAt_ref, q_setO, isNonO_non, putD, bindT, setD, wipeD, List.map_cons, List.map_nil, List.replicate, List.set_cons_zero, List.set_cons_succ, List.cons_append, List.nil_append, List.append_nil, List.length_cons, List.length_nil, Nat.reduceAdd, Nat.reduceSub, Nat.reduceEqDiff, Nat.reduceLT, Int.reduceLT, Int.reduceLE, Int.reduceEq, Nat.zero_add, Nat.add_zero, e_ints, e_bls, e_strs, sgnT, sgnF, l_ints, a_ints, s_ints, tru_bl, len_str, ty_str, ty_int, ty_bl, ty_non, ty_lst, ty_tup, ty_frz, ty_dct, tyOf_ref, lt_ii, gt_ii, ge_ii, neg_i, is_non, isNon_non, isNon_str, isNon_lst, isNon_tup, isNon_ref, isNon_int, lstOf_ref, lstOf_lst, lstOf_frz, seqOf_tup, seqOf_frz, seqOf_lst, seqOf_ref, listOf_frz, listOf_lst, listOf_ref, listG_frz, listG_lst, listG_ref, items_lst, items_frz, items_tup, items_str, items_ref, rdOf_ref, rdOf_lst, rdOf_tup, rdOf_frz, rdOf_str, rdOf_dct, dctOf_ref, dctOf_lst, dctOf_tup, dctOf_frz, dctOf_str, dctOf_dct, len_lst, len_tup, len_frz, len_ref, list_any, tuple_tup, tuple_lst, tuple_frz, tuple_ref, int_int, int_bl, mkL_t, mkL_f, mkT_ok, append_ref, clear_ref, if_sz, tyD_ref, tyD_str, tyD_lst, add_lr, add_rl, add_rr, add_ll, add_tt, add_ss, mod_ii, div_ii, mul_ii, List.lookup_cons, beq_self_eq_true, Bool.and_true, Bool.true_and, Bool.or_true, Bool.true_or, Bool.false_or, Bool.or_false, Bool.false_and, Bool.and_false, Bool.not_true, Bool.not_false, Bool.false_eq_true, Bool.true_eq_false, Option.isSome_some, Option.isSome_none, Option.map_some, Option.map_none, decide_true, decide_false, if_true, if_false, get_at, get_at_add, set_at, set_at_add, List.append_assoc, List.getElem?_cons_zero, List.getElem?_cons_succ, in_tup, in_lst, and_true, true_and, and_self, $ts,*])
variable {n : Nat} {st : Store}
/-! ### the world -/
abbrev cW : Nat := 1
abbrev cS : Nat := 0
def wfs (P T W S R : D) : List (Str × D) := [("told_places", P), ("told_things", T), ("told_ways", W), ("told_states", S), ("told_rules", R), ("told_everies", .lst []), ("told_scenes", .lst []), ("told_ends", .lst [])]
def wob (P T W S R : D) : Ob := .ins cW (wfs P T W S R)
theorem insO_w (P T W S R : D) : kInsO (some (wob P T W S R)) = some (cW, wfs P T W S R) := rfl
section
variable {P T W S R : D}
theorem lw1 : (wfs P T W S R).lookup ("told_places" : Str) = some P := rfl
theorem lw2 : (wfs P T W S R).lookup ("told_things" : Str) = some T := rfl
theorem lw3 : (wfs P T W S R).lookup ("told_ways" : Str) = some W := rfl
theorem lw4 : (wfs P T W S R).lookup ("told_states" : Str) = some S := rfl
theorem lw5 : (wfs P T W S R).lookup ("told_rules" : Str) = some R := rfl
theorem lw6 : (wfs P T W S R).lookup ("told_everies" : Str) = some (.lst []) := rfl
theorem lw7 : (wfs P T W S R).lookup ("told_scenes" : Str) = some (.lst []) := rfl
theorem lw8 : (wfs P T W S R).lookup ("told_ends" : Str) = some (.lst []) := rfl
theorem lw9 : (wfs P T W S R).lookup ("told" : Str) = none := rfl
end
theorem fw1 : ("told_places" : Str) ∈ fldF cW := by decide +kernel
theorem fw2 : ("told_things" : Str) ∈ fldF cW := by decide +kernel
theorem fw3 : ("told_ways" : Str) ∈ fldF cW := by decide +kernel
theorem fw4 : ("told_states" : Str) ∈ fldF cW := by decide +kernel
theorem fw5 : ("told_rules" : Str) ∈ fldF cW := by decide +kernel
theorem fw6 : ("told_everies" : Str) ∈ fldF cW := by decide +kernel
theorem fw7 : ("told_scenes" : Str) ∈ fldF cW := by decide +kernel
theorem fw8 : ("told_ends" : Str) ∈ fldF cW := by decide +kernel
theorem Tr.up {k : Nat} {d : D} (h : Tr k d) : ∀ {j : Nat}, k ≤ j → Tr j d := fun {j} hj => by
  induction hj with
  | refl => exact h
  | step _ ih => exact ih.mono
theorem w_init {p t w s u : List D} (hp : p.length ≤ 1000) (ht : t.length ≤ 1000) (hw : w.length ≤ 1000) (hs : s.length ≤ 1000) (hu : u.length ≤ 1000) :
    cF (n + 1) i_M_World___init__ [.ref st.length, .lst p, .lst t, .lst w, .lst s, .lst u, .lst [], .lst [], .lst []] (st ++ [.ins cW []]) = .ok .non (st ++ [wob (.lst p) (.lst t) (.lst w) (.lst s) (.lst u)]) := by
  refine cn rfl rfl B_M_World___init__ (ρ := [some (.ref st.length), some (.lst p), some (.lst t), some (.lst w), some (.lst s), some (.lst u), some (.lst []), some (.lst []), some (.lst [])]) ?_
  have e0 : startD N_M_World___init__.length [.ref st.length, .lst p, .lst t, .lst w, .lst s, .lst u, .lst [], .lst [], .lst []] = [some (.ref st.length), some (.lst p), some (.lst t), some (.lst w), some (.lst s), some (.lst u), some (.lst []), some (.lst []), some (.lst [])] := rfl
  have p1 : putD ("told_places" : Str) (.lst p) [] = ([("told_places", .lst p)] : List (Str × D)) := rfl
  have p2 : putD ("told_things" : Str) (.lst t) ([("told_places", .lst p)] : List (Str × D)) = ([("told_places", .lst p), ("told_things", .lst t)] : List (Str × D)) := rfl
  have p3 : putD ("told_ways" : Str) (.lst w) ([("told_places", .lst p), ("told_things", .lst t)] : List (Str × D)) = ([("told_places", .lst p), ("told_things", .lst t), ("told_ways", .lst w)] : List (Str × D)) := rfl
  have p4 : putD ("told_states" : Str) (.lst s) ([("told_places", .lst p), ("told_things", .lst t), ("told_ways", .lst w)] : List (Str × D)) = ([("told_places", .lst p), ("told_things", .lst t), ("told_ways", .lst w), ("told_states", .lst s)] : List (Str × D)) := rfl
  have p5 : putD ("told_rules" : Str) (.lst u) ([("told_places", .lst p), ("told_things", .lst t), ("told_ways", .lst w), ("told_states", .lst s)] : List (Str × D)) = ([("told_places", .lst p), ("told_things", .lst t), ("told_ways", .lst w), ("told_states", .lst s), ("told_rules", .lst u)] : List (Str × D)) := rfl
  have p6 : putD ("told_everies" : Str) (.lst []) ([("told_places", .lst p), ("told_things", .lst t), ("told_ways", .lst w), ("told_states", .lst s), ("told_rules", .lst u)] : List (Str × D)) = ([("told_places", .lst p), ("told_things", .lst t), ("told_ways", .lst w), ("told_states", .lst s), ("told_rules", .lst u), ("told_everies", .lst [])] : List (Str × D)) := rfl
  have p7 : putD ("told_scenes" : Str) (.lst []) ([("told_places", .lst p), ("told_things", .lst t), ("told_ways", .lst w), ("told_states", .lst s), ("told_rules", .lst u), ("told_everies", .lst [])] : List (Str × D)) = ([("told_places", .lst p), ("told_things", .lst t), ("told_ways", .lst w), ("told_states", .lst s), ("told_rules", .lst u), ("told_everies", .lst []), ("told_scenes", .lst [])] : List (Str × D)) := rfl
  have p8 : putD ("told_ends" : Str) (.lst []) ([("told_places", .lst p), ("told_things", .lst t), ("told_ways", .lst w), ("told_states", .lst s), ("told_rules", .lst u), ("told_everies", .lst []), ("told_scenes", .lst [])] : List (Str × D)) = wfs (.lst p) (.lst t) (.lst w) (.lst s) (.lst u) := rfl
  have st_ : ∀ (f : Str) (v : D) (fs fs' : List (Str × D)) (l : List D) (i : Nat) (ρ : Rho), f ∈ fldF cW → fs.length < 800 → putD f (.lst l) fs = fs' → setAt fldF f (.lst l) (st ++ [.ins cW fs]) ρ (.ref st.length) = .nx ρ (st ++ [.ins cW fs']) := fun f v fs fs' l i ρ h1 h2 h3 => by
    rw [setAt_ref, get_at]
    show (if f ∈ fldF cW ∧ fs.length < 800 then OS.nx ρ ((st ++ [Ob.ins cW fs]).set st.length (.ins cW (putD f (.lst l) fs))) else .no) = _
    rw [if_pos ⟨h1, h2⟩, h3, set_at]
    rfl
  unfold P_M_World___init__ wob
  rw [e0]
  have run : ∀ (f : Str) (k : Nat) (l : List D) (fs fs' : List (Str × D)) (ρ : Rho), l.length ≤ 1000 → mVar 0 ρ (st ++ [.ins cW fs]) = .ok (.ref st.length) (st ++ [.ins cW fs]) → mVar k ρ (st ++ [.ins cW fs]) = .ok (.lst l) (st ++ [.ins cW fs]) → f ∈ fldF cW → fs.length < 800 → putD f (.lst l) fs = fs' → sAtr fldF f (mApp (dList false) (mCons (mVar k) mNil)) (mVar 0) ρ (st ++ [.ins cW fs]) = .nx ρ (st ++ [.ins cW fs']) := fun f k l fs fs' ρ h1 h2 h3 h4 h5 h6 => by
    have q := st_ f (.lst l) fs fs' l 0 ρ h4 h5 h6
    have z : l.length ≤ 16777216 := by omega
    rw [q_atr, r_app, q_cons, h3, O_bind_ok, q_cons1, r_nil, O_bind_ok, q_cons2, O_bind_ok, list_any, seqOf_lst]
    dsimp only
    rw [mkL_f z, O_toS_ok, q_atr1, h2, O_toS_ok, q_atr2, q]
  refine run_seq (run _ _ _ _ _ _ hp rfl rfl fw1 (by decide) p1) ?_
  refine run_seq (run _ _ _ _ _ _ ht rfl rfl fw2 (by simp) p2) ?_
  refine run_seq (run _ _ _ _ _ _ hw rfl rfl fw3 (by simp) p3) ?_
  refine run_seq (run _ _ _ _ _ _ hs rfl rfl fw4 (by simp) p4) ?_
  refine run_seq (run _ _ _ _ _ _ hu rfl rfl fw5 (by simp) p5) ?_
  refine run_seq (run _ _ _ _ _ _ (by simp) rfl rfl fw6 (by simp) p6) ?_
  refine run_seq (run _ _ _ _ _ _ (by simp) rfl rfl fw7 (by simp) p7) ?_
  exact run _ _ _ _ _ _ (by simp) rfl rfl fw8 (by simp) p8
theorem told_run {j : Nat} {p t w s u : List D} (h : st[j]? = some (wob (.lst p) (.lst t) (.lst w) (.lst s) (.lst u))) (hp : Tr 4 (.lst p)) (ht : Tr 4 (.lst t)) (hw : Tr 4 (.lst w)) (hs : Tr 4 (.lst s)) (hu : Tr 9 (.lst u)) (lp : p.length ≤ 1000) (lt : t.length ≤ 1000) (lw : w.length ≤ 1000) (ls : s.length ≤ 1000) (lu : u.length ≤ 1000) :
    cF (n + 1) i_M_World_told [.ref j] st = .ok (.tup [.lst p, .lst t, .lst w, .lst s, .lst u, .lst [], .lst [], .lst []]) st := by
  refine cp rfl rfl B_M_World_told ?_ (Tr.fz (k := 10) (.tup (fun x hx => ?_) (by simp)) (by decide))
  · have e0 : startD N_M_World_told.length [.ref j] = [some (.ref j), none] := rfl
    unfold P_M_World_told
    simp_arith [e0, h, insO_w, q_attr, fw1, fw2, fw3, fw4, fw5, fw6, fw7, fw8, lw1, lw2, lw3, lw4, lw5, lw6, lw7, lw8]
  · simp only [List.mem_cons, List.not_mem_nil, or_false] at hx
    rcases hx with rfl | rfl | rfl | rfl | rfl | rfl | rfl | rfl
    · exact hp.up (by decide)
    · exact ht.up (by decide)
    · exact hw.up (by decide)
    · exact hs.up (by decide)
    · exact hu
    all_goals exact .lst (fun _ h => absurd h List.not_mem_nil) (by simp)
end K20
namespace K20
open PySem L2 Mi
local macro_rules
  | `(tactic| simp_arith [$ts,*]) => `(tactic| simp (disch := first | assumption | omega | (simp only [List.length_cons, List.length_nil, List.length_map, List.length_append]; done) | (simp only [List.length_cons, List.length_nil, List.length_map, List.length_append]; omega)) only [↓reduceIte, r_seq, seq_nx, seq_rt, seq_no, seq_ex, seq_bk, seq_ct, OS_turn_nx, OS_turn_ct, OS_turn_rt, OS_turn_bk, turn_ex, O_bind_ok, O_bind_ex, O_bind_no, O_toS_ok, O_toS_ex, O_toS_no, O_strict_ok, r_var0, r_varS, r_C, r_nil, r_un, r_app, r_lst, r_tup, r_yes, r_nopart, r_snil, r_break, r_cont, r_retN, q_bin, q_bin2, q_cons, q_cons1, q_cons2, q_meth, q_meth1, q_tru, q_tru1, q_truO, q_test, q_test1, q_notT, q_notT1, q_andT, q_andTt, q_andTf, q_orT, q_orTt, q_orTf, q_ifE, q_ifT, q_iteT, q_iteF, q_andV, q_andV1, q_andOt, q_andOf, q_orV, q_orV1, q_orOt, q_orOf, q_notV, q_notV1, q_notO, q_chain, q_chain1, q_chain2, q_chain3t, q_chain3f, q_part, q_part1, q_sl, q_sl1, q_sl2, q_sl3, q_items, q_items1, q_srcO, q_enum, q_enum1, q_enumO, q_pnil, q_pair, q_pair1, q_pair2, q_pair3, q_disp, q_zip, q_zip1, q_zip2, zipS_tt, zipS_ll, q_range1, q_range11, q_range2, q_range21, q_range3, q_isi, q_isi1, q_isiO, q_isc, q_isc1, q_iscO, q_call, q_call1, q_attr, q_attr1, q_attrO, q_attrO2, q_mth, q_mth1, q_mthO, q_mth2, q_mth3, q_make, q_make1, q_asg, q_asg1, q_asgO, q_expr, q_expr1, q_ret, q_ret1, q_if, q_ift, q_iff, q_whilet, q_whilef, q_atr, q_atr1, q_atr2, q_aa1, q_aa2, q_aa3, q_aa4, q_step, q_step1, q_step2, insAt_ref, q_insO, setAt_ref, q_setO, isNonO_non, putD, bindT, setD, wipeD, List.map_cons, List.map_nil, List.replicate, List.set_cons_zero, List.set_cons_succ, List.cons_append, List.nil_append, List.append_nil, List.length_cons, List.length_nil, Nat.reduceAdd, Nat.reduceSub, Nat.reduceEqDiff, Nat.reduceLT, Int.reduceLT, Int.reduceLE, Int.reduceEq, Nat.zero_add, Nat.add_zero, e_ints, e_bls, e_strs, sgnT, sgnF, l_ints, a_ints, s_ints, tru_bl, len_str, ty_str, ty_int, ty_bl, ty_non, ty_lst, ty_tup, ty_frz, ty_dct, tyOf_ref, lt_ii, gt_ii, ge_ii, neg_i, is_non, isNon_non, isNon_str, isNon_lst, isNon_tup, isNon_ref, isNon_int, lstOf_ref, lstOf_lst, lstOf_frz, seqOf_tup, seqOf_frz, seqOf_lst, seqOf_ref, listOf_frz, listOf_lst, listOf_ref, listG_frz, listG_lst, listG_ref, items_lst, items_frz, items_tup, items_str, items_ref, rdOf_ref, rdOf_lst, rdOf_tup, rdOf_frz, rdOf_str, rdOf_dct, dctOf_ref, dctOf_lst, dctOf_tup, dctOf_frz, dctOf_str, dctOf_dct, len_lst, len_tup, len_frz, len_ref, list_any, tuple_tup, tuple_lst, tuple_frz, tuple_ref, int_int, int_bl, mkL_t, mkL_f, mkT_ok, append_ref, clear_ref, if_sz, tyD_ref, tyD_str, tyD_lst, add_lr, add_rl, add_rr, add_ll, add_tt, add_ss, mod_ii, div_ii, mul_ii, List.lookup_cons, beq_self_eq_true, Bool.and_true, Bool.true_and, Bool.or_true, Bool.true_or, Bool.false_or, Bool.or_false, Bool.false_and, Bool.and_false, Bool.not_true, Bool.not_false, Bool.false_eq_true, Bool.true_eq_false, Option.isSome_some, Option.isSome_none, Option.map_some, Option.map_none, decide_true, decide_false, if_true, if_false, get_at, get_at_add, set_at, set_at_add, List.append_assoc, List.getElem?_cons_zero, List.getElem?_cons_succ, in_tup, in_lst, and_true, true_and, and_self, $ts,*])
variable {n : Nat} {st : Store}
/-! ### states -/
structure SI where
  me : Nat
  rw : Nat
  wh : Nat
  ld : Nat
  dr : Nat
  ct : Nat
def SI.ix (I : SI) : List Nat := [I.me, I.rw, I.wh, I.ld, I.dr, I.ct]
structure Sx where
  spot : Str
  mom : Int
  wh : List (Str × List Str)
  ld : List (Str × Bool)
  dr : List (Str × Bool)
  ct : List (Str × Int)
structure Gw where
  w : Nat
  rows : List Row
  rooms : List (Str × Bool)
  ways : List D
def dW (w : List Str) : D := .tup (Ss w)
def sfs (G : Gw) (I : SI) (p : Str) (m : Int) : List (Str × D) := [("tale", .ref G.w), ("rows", .ref I.rw), ("rooms", .dct (kv D.bl G.rooms)), ("ways", .lst G.ways), ("spot", .str p), ("moment", .int m), ("wheres", .ref I.wh), ("lids", .ref I.ld), ("dressed", .ref I.dr), ("counts", .ref I.ct)]
def rl (rows : List Row) : List (Str × Row) := rows.map fun r => (r.name, r)
structure StAt (st : Store) (G : Gw) (I : SI) (S : Sx) : Prop where
  me : st[I.me]? = some (.ins cS (sfs G I S.spot S.mom))
  rw : st[I.rw]? = some (.dct (kv Row.d (rl G.rows)))
  wh : st[I.wh]? = some (.dct (kv dW S.wh))
  ld : st[I.ld]? = some (.dct (kv D.bl S.ld))
  dr : st[I.dr]? = some (.dct (kv D.bl S.dr))
  ct : st[I.ct]? = some (.dct (kv D.int S.ct))
  nd : I.ix.Nodup
structure Sok (G : Gw) (S : Sx) : Prop where
  kw : ks S.wh = ks (rl G.rows)
  kd : ks S.dr = ks (rl G.rows)
  kl : ∀ k ∈ ks S.ld, k ∈ ks (rl G.rows)
  lr : G.rows.length ≤ 12
  lc : S.ct.length ≤ 6
  ll : S.ld.length ≤ 12
  lw : ∀ p ∈ S.wh, p.2.length ≤ 2
theorem rl_len (rows : List Row) : (rl rows).length = rows.length := List.length_map _
theorem Sok.lwh {G : Gw} {S : Sx} (h : Sok G S) : S.wh.length ≤ 12 := by
  have := congrArg List.length h.kw
  unfold ks at this
  rw [List.length_map, List.length_map, rl_len] at this
  have := h.lr
  omega
theorem Sok.ldr {G : Gw} {S : Sx} (h : Sok G S) : S.dr.length ≤ 12 := by
  have := congrArg List.length h.kd
  unfold ks at this
  rw [List.length_map, List.length_map, rl_len] at this
  have := h.lr
  omega
theorem StAt.frame {st' : Store} {G : Gw} {I : SI} {S : Sx} (h : StAt st G I S) (e : ∀ k ∈ I.ix, st'[k]? = st[k]?) : StAt st' G I S :=
  ⟨by rw [e _ (by simp [SI.ix])]; exact h.me, by rw [e _ (by simp [SI.ix])]; exact h.rw, by rw [e _ (by simp [SI.ix])]; exact h.wh, by rw [e _ (by simp [SI.ix])]; exact h.ld, by rw [e _ (by simp [SI.ix])]; exact h.dr, by rw [e _ (by simp [SI.ix])]; exact h.ct, h.nd⟩
section
variable {G : Gw} {I : SI} {p : Str} {m : Int}
theorem ls1 : (sfs G I p m).lookup ("tale" : Str) = some (.ref G.w) := rfl
theorem ls2 : (sfs G I p m).lookup ("rows" : Str) = some (.ref I.rw) := rfl
theorem ls3 : (sfs G I p m).lookup ("rooms" : Str) = some (.dct (kv D.bl G.rooms)) := rfl
theorem ls4 : (sfs G I p m).lookup ("ways" : Str) = some (.lst G.ways) := rfl
theorem ls5 : (sfs G I p m).lookup ("spot" : Str) = some (.str p) := rfl
theorem ls6 : (sfs G I p m).lookup ("moment" : Str) = some (.int m) := rfl
theorem ls7 : (sfs G I p m).lookup ("wheres" : Str) = some (.ref I.wh) := rfl
theorem ls8 : (sfs G I p m).lookup ("lids" : Str) = some (.ref I.ld) := rfl
theorem ls9 : (sfs G I p m).lookup ("dressed" : Str) = some (.ref I.dr) := rfl
theorem ls10 : (sfs G I p m).lookup ("counts" : Str) = some (.ref I.ct) := rfl
theorem lm1 : (sfs G I p m).lookup ("need_thing" : Str) = none := rfl
theorem lm2 : (sfs G I p m).lookup ("where" : Str) = none := rfl
theorem lm3 : (sfs G I p m).lookup ("holder_has" : Str) = none := rfl
theorem lm4 : (sfs G I p m).lookup ("is_where" : Str) = none := rfl
theorem lm5 : (sfs G I p m).lookup ("would_ring" : Str) = none := rfl
theorem lm6 : (sfs G I p m).lookup ("number_of" : Str) = none := rfl
theorem lm7 : (sfs G I p m).lookup ("told" : Str) = none := rfl
theorem lm8 : (sfs G I p m).lookup ("copied" : Str) = none := rfl
theorem lm9 : (sfs G I p m).lookup ("move_thing" : Str) = none := rfl
theorem lm10 : (sfs G I p m).lookup ("set_open" : Str) = none := rfl
theorem lm11 : (sfs G I p m).lookup ("set_worn" : Str) = none := rfl
theorem lm12 : (sfs G I p m).lookup ("set_number" : Str) = none := rfl
theorem lm13 : (sfs G I p m).lookup ("go_to" : Str) = none := rfl
theorem lm14 : (sfs G I p m).lookup ("next_turn" : Str) = none := rfl
theorem lm15 : (sfs G I p m).lookup ("here" : Str) = none := rfl
theorem lm16 : (sfs G I p m).lookup ("is_open" : Str) = none := rfl
theorem lm17 : (sfs G I p m).lookup ("is_worn" : Str) = none := rfl
theorem insO_s : kInsO (some (.ins cS (sfs G I p m))) = some (cS, sfs G I p m) := rfl
end
theorem fs1 : ("tale" : Str) ∈ fldF cS := by decide +kernel
theorem fs2 : ("rows" : Str) ∈ fldF cS := by decide +kernel
theorem fs3 : ("rooms" : Str) ∈ fldF cS := by decide +kernel
theorem fs4 : ("ways" : Str) ∈ fldF cS := by decide +kernel
theorem fs5 : ("spot" : Str) ∈ fldF cS := by decide +kernel
theorem fs6 : ("moment" : Str) ∈ fldF cS := by decide +kernel
theorem fs7 : ("wheres" : Str) ∈ fldF cS := by decide +kernel
theorem fs8 : ("lids" : Str) ∈ fldF cS := by decide +kernel
theorem fs9 : ("dressed" : Str) ∈ fldF cS := by decide +kernel
theorem fs10 : ("counts" : Str) ∈ fldF cS := by decide +kernel
theorem mt1 : mthF cS "need_thing" = some (i_M_State_need_thing, 1) := by decide +kernel
theorem mt2 : mthF cS "where" = some (i_M_State_where, 1) := by decide +kernel
theorem mt3 : mthF cS "holder_has" = some (i_M_State_holder_has, 2) := by decide +kernel
theorem mt4 : mthF cS "is_where" = some (i_M_State_is_where, 1) := by decide +kernel
theorem mt5 : mthF cS "would_ring" = some (i_M_State_would_ring, 2) := by decide +kernel
theorem mt6 : mthF cS "number_of" = some (i_M_State_number_of, 1) := by decide +kernel
theorem mt7 : mthF cS "told" = some (i_M_State_told, 0) := by decide +kernel
theorem mt9 : mthF cS "move_thing" = some (i_M_State_move_thing, 2) := by decide +kernel
theorem mt12 : mthF cS "set_number" = some (i_M_State_set_number, 2) := by decide +kernel
theorem mt15 : mthF cS "here" = some (i_M_State_here, 0) := by decide +kernel
theorem mt16 : mthF cS "is_open" = some (i_M_State_is_open, 1) := by decide +kernel
theorem mt17 : mthF cS "is_worn" = some (i_M_State_is_worn, 1) := by decide +kernel
theorem mt0 : mthF cW "told" = some (i_M_World_told, 0) := by decide +kernel
theorem isi_str (x : Str) : (["str"].any (subT "str")) = true := rfl
section
variable {G : Gw} {I : SI} {S : Sx}
theorem need_run (h : StAt st G I S) {t : Str} (ht : t ∈ ks (rl G.rows)) : cF (n + 1) i_M_State_need_thing [.ref I.me, .str t] st = .ok .non st := by
  refine cpn rfl rfl B_M_State_need_thing (ρ := [some (.ref I.me), some (.str t)]) ?_
  have e0 : startD N_M_State_need_thing.length [.ref I.me, .str t] = [some (.ref I.me), some (.str t)] := rfl
  have e1 := in_kv (ng := true) (k := t) (rd_ref h.rw)
  have e2 : (["str"].any (subT "str")) = true := rfl
  unfold P_M_State_need_thing
  simp_arith [e0, h.me, insO_s, q_attr, fs2, ls2, e1, e2, ht]
theorem where_run (h : StAt st G I S) {t : Str} {w : List Str} (ht : t ∈ ks (rl G.rows)) (hw : gt S.wh t = some w) : cF (n + 2) i_M_State_where [.ref I.me, .str t] st = .ok (dW w) st := by
  refine cp rfl rfl B_M_State_where ?_ ?_
  · have e0 : startD N_M_State_where.length [.ref I.me, .str t] = [some (.ref I.me), some (.str t)] := rfl
    have e1 := need_run (n := n) h ht
    have e2 := ix_kv (rd_ref h.wh) hw
    unfold P_M_State_where
    simp_arith [e0, h.me, insO_s, q_attr, q_mth, mt1, lm1, e1, fs7, ls7, e2]
  · show (sq ((Ss w).map (fz 63 st.length st))).map D.tup = _
    rw [fz_strs]; rfl
theorem hh_run (h : StAt st G I S) {t x : Str} {r : Row} (hr : gt (rl G.rows) t = some r) : cF (n + 1) i_M_State_holder_has [.ref I.me, .str t, .str x] st = .ok (.bl (decide (x ∈ r.trs))) st := by
  refine cp rfl rfl B_M_State_holder_has ?_ rfl
  have e0 : startD N_M_State_holder_has.length [.ref I.me, .str t, .str x] = [some (.ref I.me), some (.str t), some (.str x)] := rfl
  have e1 := in_kv (ng := false) (k := t) (rd_ref h.rw)
  have e2 : (["str"].any (subT "str")) = true := rfl
  have e3 := ix_kv (rd_ref h.rw) hr
  have e4 : dIx r.d (.int 4) st = .ok (.tup (Ss r.trs)) st := rfl
  have ht := gt_ks hr
  unfold P_M_State_holder_has
  simp_arith [e0, h.me, insO_s, q_attr, fs2, ls2, e1, e2, ht, e3, e4]
end
end K20
namespace K20
open PySem L2 Mi
local macro_rules
  | `(tactic| simp_arith [$ts,*]) => `(tactic| simp (disch := first | assumption | omega | (simp only [List.length_cons, List.length_nil, List.length_map, List.length_append]; done) | (simp only [List.length_cons, List.length_nil, List.length_map, List.length_append]; omega)) only [↓reduceIte, r_seq, seq_nx, seq_rt, seq_no, seq_ex, seq_bk, seq_ct, OS_turn_nx, OS_turn_ct, OS_turn_rt, OS_turn_bk, turn_ex, O_bind_ok, O_bind_ex, O_bind_no, O_toS_ok, O_toS_ex, O_toS_no, O_strict_ok, r_var0, r_varS, r_C, r_nil, r_un, r_app, r_lst, r_tup, r_yes, r_nopart, r_snil, r_break, r_cont, r_retN, q_bin, q_bin2, q_cons, q_cons1, q_cons2, q_meth, q_meth1, q_tru, q_tru1, q_truO, q_test, q_test1, q_notT, q_notT1, q_andT, q_andTt, q_andTf, q_orT, q_orTt, q_orTf, q_ifE, q_ifT, q_iteT, q_iteF, q_andV, q_andV1, q_andOt, q_andOf, q_orV, q_orV1, q_orOt, q_orOf, q_notV, q_notV1, q_notO, q_chain, q_chain1, q_chain2, q_chain3t, q_chain3f, q_part, q_part1, q_sl, q_sl1, q_sl2, q_sl3, q_items, q_items1, q_srcO, q_enum, q_enum1, q_enumO, q_pnil, q_pair, q_pair1, q_pair2, q_pair3, q_disp, q_zip, q_zip1, q_zip2, zipS_tt, zipS_ll, q_range1, q_range11, q_range2, q_range21, q_range3, q_isi, q_isi1, q_isiO, q_isc, q_isc1, q_iscO, q_call, q_call1, q_attr, q_attr1, q_attrO, q_attrO2, q_mth, q_mth1, q_mthO, q_mth2, q_mth3, q_make, q_make1, q_asg, q_asg1, q_asgO, q_expr, q_expr1, q_ret, q_ret1, q_if, q_ift, q_iff, q_whilet, q_whilef, q_atr, q_atr1, q_atr2, q_aa1, q_aa2, q_aa3, q_aa4, q_step, q_step1, q_step2, insAt_ref, q_insO, setAt_ref, q_setO, isNonO_non, putD, bindT, setD, wipeD, List.map_cons, List.map_nil, List.replicate, List.set_cons_zero, List.set_cons_succ, List.cons_append, List.nil_append, List.append_nil, List.length_cons, List.length_nil, Nat.reduceAdd, Nat.reduceSub, Nat.reduceEqDiff, Nat.reduceLT, Int.reduceLT, Int.reduceLE, Int.reduceEq, Nat.zero_add, Nat.add_zero, e_ints, e_bls, e_strs, sgnT, sgnF, l_ints, a_ints, s_ints, tru_bl, len_str, ty_str, ty_int, ty_bl, ty_non, ty_lst, ty_tup, ty_frz, ty_dct, tyOf_ref, lt_ii, gt_ii, ge_ii, neg_i, is_non, isNon_non, isNon_str, isNon_lst, isNon_tup, isNon_ref, isNon_int, lstOf_ref, lstOf_lst, lstOf_frz, seqOf_tup, seqOf_frz, seqOf_lst, seqOf_ref, listOf_frz, listOf_lst, listOf_ref, listG_frz, listG_lst, listG_ref, items_lst, items_frz, items_tup, items_str, items_ref, rdOf_ref, rdOf_lst, rdOf_tup, rdOf_frz, rdOf_str, rdOf_dct, dctOf_ref, dctOf_lst, dctOf_tup, dctOf_frz, dctOf_str, dctOf_dct, len_lst, len_tup, len_frz, len_ref, list_any, tuple_tup, tuple_lst, tuple_frz, tuple_ref, int_int, int_bl, mkL_t, mkL_f, mkT_ok, append_ref, clear_ref, if_sz, tyD_ref, tyD_str, tyD_lst, add_lr, add_rl, add_rr, add_ll, add_tt, add_ss, mod_ii, div_ii, mul_ii, List.lookup_cons, beq_self_eq_true, Bool.and_true, Bool.true_and, Bool.or_true, Bool.true_or, Bool.false_or, Bool.or_false, Bool.false_and, Bool.and_false, Bool.not_true, Bool.not_false, Bool.false_eq_true, Bool.true_eq_false, Option.isSome_some, Option.isSome_none, Option.map_some, Option.map_none, decide_true, decide_false, if_true, if_false, get_at, get_at_add, set_at, set_at_add, List.append_assoc, List.getElem?_cons_zero, List.getElem?_cons_succ, in_tup, in_lst, and_true, true_and, and_self, $ts,*])
variable {n : Nat} {st : Store}
/-! ### going up -/
def Root (r : List Str) : Prop := (∃ p : Str, r = [("at" : Str), p]) ∨ r = [("with" : Str)] ∨ r = [("nowhere" : Str)]
def Held (w : List Str) (h : Str) : Prop := w = [("in" : Str), h] ∨ w = [("on" : Str), h]
/-- from a where up: the holders, the nearest first; where the last one is -/
inductive Cw (W : List (Str × List Str)) : List Str → List Str → List Str → Prop
  | top {r : List Str} (hr : Root r) : Cw W r [] r
  | up {w w' l r : List Str} {h : Str} (hh : Held w h) (e : gt W h = some w') (c : Cw W w' l r) : Cw W w (h :: l) r
def IO : D := .tup [.str "in", .str "on"]
theorem root_ix {r : List Str} (h : Root r) : ∃ a : Str, (∀ st : Store, dIx (dW r) (.int 0) st = .ok (.str a) st) ∧ ∀ (ng : Bool) (st : Store), dIn ng (.str a) IO st = .ok (.bl (sgn ng false)) st := by
  rcases h with ⟨p, rfl⟩ | rfl | rfl
  · exact ⟨"at", fun _ => rfl, fun ng st => (in_tup (st := st) ng "at" ["in", "on"]).trans (by rw [show decide (("at" : Str) ∈ (["in", "on"] : List Str)) = false by decide +kernel])⟩
  · exact ⟨"with", fun _ => rfl, fun ng st => (in_tup (st := st) ng "with" ["in", "on"]).trans (by rw [show decide (("with" : Str) ∈ (["in", "on"] : List Str)) = false by decide +kernel])⟩
  · exact ⟨"nowhere", fun _ => rfl, fun ng st => (in_tup (st := st) ng "nowhere" ["in", "on"]).trans (by rw [show decide (("nowhere" : Str) ∈ (["in", "on"] : List Str)) = false by decide +kernel])⟩
theorem held_ix {w : List Str} {x : Str} (h : Held w x) : ∃ a : Str, (∀ st : Store, dIx (dW w) (.int 0) st = .ok (.str a) st) ∧ (∀ (ng : Bool) (st : Store), dIn ng (.str a) IO st = .ok (.bl (sgn ng true)) st) ∧ ∀ st : Store, dIx (dW w) (.int 1) st = .ok (.str x) st := by
  rcases h with rfl | rfl
  · exact ⟨"in", fun _ => rfl, fun ng st => (in_tup (st := st) ng "in" ["in", "on"]).trans (by rw [show decide (("in" : Str) ∈ (["in", "on"] : List Str)) = true by decide +kernel]), fun _ => rfl⟩
  · exact ⟨"on", fun _ => rfl, fun ng st => (in_tup (st := st) ng "on" ["in", "on"]).trans (by rw [show decide (("on" : Str) ∈ (["in", "on"] : List Str)) = true by decide +kernel]), fun _ => rfl⟩
theorem io_eq : D.tup [.str "in", .str "on"] = IO := rfl
section
variable {G : Gw} {I : SI} {S : Sx}
theorem ring_while (h : StAt st G I S) {x : Str} {w l r : List Str} (c : Cw S.wh w l r) : x ∉ l → ∀ k : Nat, sWhile (mTest (mBin (dIn false) (mBin dIx (mVar 2) (mC (.int 0))) (mTup (mCons (mC (.str "in")) (mCons (mC (.str "on")) mNil))))) (sSeq (sIf (mTest (mBin (dEq false) (mBin dIx (mVar 2) (mC (.int 1))) (mVar 1))) (sRet (mC (.bl true))) sNil)
    (sAsg (mBin dIx (mAttr fldF "wheres" (mVar 0)) (mBin dIx (mVar 2) (mC (.int 1)))) (.one 2))) (l.length + 1 + k) [some (.ref I.me), some (.str x), some (dW w)] st = .nx [some (.ref I.me), some (.str x), some (dW r)] st := by
  induction c with
  | top hr =>
    intro _ k
    obtain ⟨a, e1, e2⟩ := root_ix hr
    rw [show ([] : List Str).length + 1 + k = k + 1 by simp; omega, q_while]
    simp_arith [io_eq, e1, e2]
  | @up w w' l r y hh e c ih =>
    intro hx k
    obtain ⟨a, e1, e2, e3⟩ := held_ix hh
    rw [List.mem_cons, not_or] at hx
    have e4 : ¬ y = x := fun z => hx.1 z.symm
    have e5 := ix_kv (rd_ref h.wh) e
    have g := ih hx.2 k
    rw [show (y :: l).length + 1 + k = (l.length + 1 + k) + 1 by simp; omega, q_while]
    simp_arith [io_eq, e1, e2, e3, e4, h.me, insO_s, q_attr, fs7, ls7, e5]
    exact g
theorem ring_run (h : StAt st G I S) {x : Str} {w l r : List Str} (c : Cw S.wh w l r) (hx : x ∉ l) (hl : l.length ≤ 1000) : cF (n + 1) i_M_State_would_ring [.ref I.me, .str x, dW w] st = .ok (.bl false) st := by
  refine cp rfl rfl B_M_State_would_ring ?_ rfl
  have e0 : startD N_M_State_would_ring.length [.ref I.me, .str x, dW w] = [some (.ref I.me), some (.str x), some (dW w)] := rfl
  have e1 := ring_while h c hx (loopFuel - (l.length + 1))
  rw [show l.length + 1 + (loopFuel - (l.length + 1)) = loopFuel by rw [fuel_is]; omega] at e1
  unfold P_M_State_would_ring
  rw [e0]
  simp_arith [e1]
/-- where a thing may go -/
inductive Wr (G : Gw) : List Str → Prop
  | place {p : Str} (h : p ∈ ks G.rooms) : Wr G ["at", p]
  | mine : Wr G ["with"]
  | away : Wr G ["nowhere"]
  | box {t : Str} {r : Row} (h : gt (rl G.rows) t = some r) (hb : ("box" : Str) ∈ r.trs) : Wr G ["in", t]
  | stand {t : Str} {r : Row} (h : gt (rl G.rows) t = some r) (hb : ("stand" : Str) ∈ r.trs) : Wr G ["on", t]
theorem isw_run (h : StAt st G I S) {w : List Str} (hw : Wr G w) : cF (n + 2) i_M_State_is_where [.ref I.me, dW w] st = .ok (.bl true) st := by
  refine cp rfl rfl B_M_State_is_where ?_ rfl
  have e0 : startD N_M_State_is_where.length [.ref I.me, dW w] = [some (.ref I.me), some (dW w)] := rfl
  have t1 : (["tuple"].any (subT "tuple")) = true := rfl
  have t2 : (["str"].any (subT "str")) = true := rfl
  have t3 : ∀ (a b : Str), dLen [.tup [.str a, .str b]] st = .ok (.int 2) st := fun _ _ => rfl
  have t4 : ∀ (a : Str), dLen [.tup [.str a]] st = .ok (.int 1) st := fun _ => rfl
  have t5 : ∀ (a b : Str), dIx (.tup [.str a, .str b]) (.int 0) st = .ok (.str a) st := fun _ _ => rfl
  have t6 : ∀ (a : Str), dIx (.tup [.str a]) (.int 0) st = .ok (.str a) st := fun _ => rfl
  have t7 : ∀ (a b : Str), dIx (.tup [.str a, .str b]) (.int 1) st = .ok (.str b) st := fun _ _ => rfl
  have t8 : dLe (.int 1) (.int 2) st = .ok (.bl true) st := rfl
  have t9 : dLe (.int 1) (.int 1) st = .ok (.bl true) st := rfl
  have t10 : dLe (.int 2) (.int 2) st = .ok (.bl true) st := rfl
  unfold P_M_State_is_where
  cases hw with
  | @place p hp =>
    have e1 := inD_kv (st := st) (f := D.bl) (l := G.rooms) (k := p) (ng := false)
    simp only [dW, Ss, List.map_cons, List.map_nil] at e0 ⊢
    simp_arith [e0, t1, t2, t3, t5, t7, t8, t10, h.me, insO_s, q_attr, fs3, ls3, e1, hp]
  | mine =>
    have e1 := in_tup (st := st) false "with" ["with", "nowhere"]
    rw [show decide (("with" : Str) ∈ (["with", "nowhere"] : List Str)) = true by decide +kernel] at e1
    simp only [dW, Ss, List.map_cons, List.map_nil] at e0 e1 ⊢
    simp_arith [e0, t1, t2, t4, t6, t8, t9, e1]
  | away =>
    have e1 := in_tup (st := st) false "nowhere" ["with", "nowhere"]
    rw [show decide (("nowhere" : Str) ∈ (["with", "nowhere"] : List Str)) = true by decide +kernel] at e1
    simp only [dW, Ss, List.map_cons, List.map_nil] at e0 e1 ⊢
    simp_arith [e0, t1, t2, t4, t6, t8, t9, e1]
  | @box t r hr hb =>
    have e1 := hh_run (n := n) (x := "box") h hr
    rw [decide_eq_true hb] at e1
    have c1 : ¬ ("in" : Str) = "at" := by decide +kernel
    simp only [dW, Ss, List.map_cons, List.map_nil] at e0 ⊢
    simp_arith [e0, t1, t2, t3, t5, t7, t8, t10, c1, h.me, insO_s, q_mth, mt3, lm3, e1]
  | @stand t r hr hb =>
    have e1 := hh_run (n := n) (x := "stand") h hr
    rw [decide_eq_true hb] at e1
    have c1 : ¬ ("on" : Str) = "at" := by decide +kernel
    have c2 : ¬ ("on" : Str) = "in" := by decide +kernel
    simp only [dW, Ss, List.map_cons, List.map_nil] at e0 ⊢
    simp_arith [e0, t1, t2, t3, t5, t7, t8, t10, c1, c2, h.me, insO_s, q_mth, mt3, lm3, e1]
end
end K20
namespace K20
open PySem L2 Mi
local macro_rules
  | `(tactic| simp_arith [$ts,*]) => `(tactic| simp (disch := first | assumption | omega | (simp only [List.length_cons, List.length_nil, List.length_map, List.length_append]; done) | (simp only [List.length_cons, List.length_nil, List.length_map, List.length_append]; omega)) only [↓reduceIte, r_seq, seq_nx, seq_rt, seq_no, seq_ex, seq_bk, seq_ct, OS_turn_nx, OS_turn_ct, OS_turn_rt, OS_turn_bk, turn_ex, O_bind_ok, O_bind_ex, O_bind_no, O_toS_ok, O_toS_ex, O_toS_no, O_strict_ok, r_var0, r_varS, r_C, r_nil, r_un, r_app, r_lst, r_tup, r_yes, r_nopart, r_snil, r_break, r_cont, r_retN, q_bin, q_bin2, q_cons, q_cons1, q_cons2, q_meth, q_meth1, q_tru, q_tru1, q_truO, q_test, q_test1, q_notT, q_notT1, q_andT, q_andTt, q_andTf, q_orT, q_orTt, q_orTf, q_ifE, q_ifT, q_iteT, q_iteF, q_andV, q_andV1, q_andOt, q_andOf, q_orV, q_orV1, q_orOt, q_orOf, q_notV, q_notV1, q_notO, q_chain, q_chain1, q_chain2, q_chain3t, q_chain3f, q_part, q_part1, q_sl, q_sl1, q_sl2, q_sl3, q_items, q_items1, q_srcO, q_enum, q_enum1, q_enumO, q_pnil, q_pair, q_pair1, q_pair2, q_pair3, q_disp, q_zip, q_zip1, q_zip2, zipS_tt, zipS_ll, q_range1, q_range11, q_range2, q_range21, q_range3, q_isi, q_isi1, q_isiO, q_isc, q_isc1, q_iscO, q_call, q_call1, q_attr, q_attr1, q_attrO, q_attrO2, q_mth, q_mth1, q_mthO, q_mth2, q_mth3, q_make, q_make1, q_asg, q_asg1, q_asgO, q_expr, q_expr1, q_ret, q_ret1, q_if, q_ift, q_iff, q_whilet, q_whilef, q_atr, q_atr1, q_atr2, q_aa1, q_aa2, q_aa3, q_aa4, q_step, q_step1, q_step2, insAt_ref, q_insO, setAt_ref, q_setO, isNonO_non, putD, bindT, setD, wipeD, List.map_cons, List.map_nil, List.replicate, List.set_cons_zero, List.set_cons_succ, List.cons_append, List.nil_append, List.append_nil, List.length_cons, List.length_nil, Nat.reduceAdd, Nat.reduceSub, Nat.reduceEqDiff, Nat.reduceLT, Int.reduceLT, Int.reduceLE, Int.reduceEq, Nat.zero_add, Nat.add_zero, e_ints, e_bls, e_strs, sgnT, sgnF, l_ints, a_ints, s_ints, tru_bl, len_str, ty_str, ty_int, ty_bl, ty_non, ty_lst, ty_tup, ty_frz, ty_dct, tyOf_ref, lt_ii, gt_ii, ge_ii, neg_i, is_non, isNon_non, isNon_str, isNon_lst, isNon_tup, isNon_ref, isNon_int, lstOf_ref, lstOf_lst, lstOf_frz, seqOf_tup, seqOf_frz, seqOf_lst, seqOf_ref, listOf_frz, listOf_lst, listOf_ref, listG_frz, listG_lst, listG_ref, items_lst, items_frz, items_tup, items_str, items_ref, rdOf_ref, rdOf_lst, rdOf_tup, rdOf_frz, rdOf_str, rdOf_dct, dctOf_ref, dctOf_lst, dctOf_tup, dctOf_frz, dctOf_str, dctOf_dct, len_lst, len_tup, len_frz, len_ref, list_any, tuple_tup, tuple_lst, tuple_frz, tuple_ref, int_int, int_bl, mkL_t, mkL_f, mkT_ok, append_ref, clear_ref, if_sz, tyD_ref, tyD_str, tyD_lst, add_lr, add_rl, add_rr, add_ll, add_tt, add_ss, mod_ii, div_ii, mul_ii, List.lookup_cons, beq_self_eq_true, Bool.and_true, Bool.true_and, Bool.or_true, Bool.true_or, Bool.false_or, Bool.or_false, Bool.false_and, Bool.and_false, Bool.not_true, Bool.not_false, Bool.false_eq_true, Bool.true_eq_false, Option.isSome_some, Option.isSome_none, Option.map_some, Option.map_none, decide_true, decide_false, if_true, if_false, get_at, get_at_add, set_at, set_at_add, List.append_assoc, List.getElem?_cons_zero, List.getElem?_cons_succ, in_tup, in_lst, and_true, true_and, and_self, $ts,*])
variable {n : Nat} {st : Store}
/-! ### rings -/
theorem root_held {w : List Str} {h : Str} (hr : Root w) (hh : Held w h) : False := by
  rcases hr with ⟨p, rfl⟩ | rfl | rfl <;> rcases hh with hh | hh
  · exact absurd (List.cons.inj hh).1 (by decide +kernel)
  · exact absurd (List.cons.inj hh).1 (by decide +kernel)
  · cases hh
  · cases hh
  · cases hh
  · cases hh
theorem held_inj {w : List Str} {h k : Str} (a : Held w h) (b : Held w k) : h = k := by
  rcases a with a | a <;> rcases b with b | b <;> (rw [a] at b; simp only [List.cons.injEq, and_true] at b)
  · exact b.2
  · exact b.2
  · exact b.2
  · exact b.2
section
variable {W : List (Str × List Str)}
theorem Cw.det {w l r : List Str} (a : Cw W w l r) : ∀ {l' r' : List Str}, Cw W w l' r' → l = l' ∧ r = r' := by
  induction a with
  | top hr =>
    intro l' r' b
    cases b with
    | top _ => exact ⟨rfl, rfl⟩
    | up hh _ _ => exact (root_held hr hh).elim
  | up hh e c ih =>
    intro l' r' b
    cases b with
    | top hr => exact (root_held hr hh).elim
    | up hh' e' c' =>
      have := held_inj hh hh'
      subst this
      rw [e] at e'
      cases e'
      obtain ⟨h1, h2⟩ := ih c'
      exact ⟨by rw [h1], h2⟩
theorem Cw.behind {w l r : List Str} (a : Cw W w l r) : ∀ {t : Str} {wt : List Str}, t ∈ l → gt W t = some wt → ∃ l2, Cw W wt l2 r ∧ l2.length < l.length := by
  induction a with
  | top _ => intro t wt h _; simp at h
  | @up w w' l r h hh e c ih =>
    intro t wt ht he
    rcases List.mem_cons.mp ht with rfl | ht
    · rw [e] at he
      cases he
      exact ⟨l, c, by simp⟩
    · obtain ⟨l2, h1, h2⟩ := ih ht he
      exact ⟨l2, h1, by simp; omega⟩
theorem Cw.not_self {w l r : List Str} {t : Str} (a : Cw W w l r) (e : gt W t = some w) : t ∉ l := fun z => by
  obtain ⟨l2, h1, h2⟩ := a.behind z e
  have := (a.det h1).1
  subst this
  omega
theorem Cw.nodup {w l r : List Str} (a : Cw W w l r) : l.Nodup := by
  induction a with
  | top _ => exact List.nodup_nil
  | up hh e c ih => exact List.nodup_cons.mpr ⟨c.not_self e, ih⟩
theorem Cw.names {w l r : List Str} (a : Cw W w l r) : ∀ x ∈ l, x ∈ ks W := by
  induction a with
  | top _ => intro x h; simp at h
  | up hh e c ih =>
    intro x h
    rcases List.mem_cons.mp h with rfl | h
    · exact gt_ks e
    · exact ih x h
theorem Cw.root {w l r : List Str} (a : Cw W w l r) : Root r := by
  induction a with
  | top h => exact h
  | up _ _ _ ih => exact ih
theorem Cw.last {w l r : List Str} (a : Cw W w l r) (d : Str) : l ≠ [] → gt W (l.getLastD d) = some r := by
  induction a generalizing d with
  | top _ => intro h; exact absurd rfl h
  | @up w w' l r h hh e c ih =>
    intro _
    cases l with
    | nil => cases c with | top _ => exact e
    | cons y l => exact ih h (by simp)
end
theorem erase_len {x : Str} : ∀ {m : List Str}, x ∈ m → (m.erase x).length + 1 = m.length := fun {m} h => by
  rw [List.length_erase_of_mem h]
  have := List.length_pos_of_mem h
  omega
theorem fit_in : ∀ (l m : List Str), l.Nodup → (∀ x ∈ l, x ∈ m) → l.length ≤ m.length
  | [], m, _, _ => Nat.zero_le _
  | x :: l, m, hn, hs => by
    rw [List.nodup_cons] at hn
    have hx := hs x (List.mem_cons_self ..)
    have ih := fit_in l (m.erase x) hn.2 fun y hy => by
      have ne : y ≠ x := fun z => hn.1 (by rw [← z]; exact hy)
      exact (List.mem_erase_of_ne ne).mpr (hs y (List.mem_cons_of_mem _ hy))
    have := erase_len hx
    rw [List.length_cons]; omega
/-- nothing holds itself -/
def Good (W : List (Str × List Str)) : Prop := ∀ t ∈ ks W, ∃ w l r, gt W t = some w ∧ Cw W w l r
theorem Good.at_ {W : List (Str × List Str)} (g : Good W) (hl : W.length ≤ 12) {t : Str} (ht : t ∈ ks W) : ∃ w l r, gt W t = some w ∧ Cw W w l r ∧ l.Nodup ∧ t ∉ l ∧ l.length ≤ 11 ∧ Root r := by
  obtain ⟨w, l, r, e, c⟩ := g t ht
  refine ⟨w, l, r, e, c, c.nodup, c.not_self e, ?_, c.root⟩
  have := fit_in (t :: l) (ks W) (List.nodup_cons.mpr ⟨c.not_self e, c.nodup⟩) fun x hx => by
    rcases List.mem_cons.mp hx with rfl | hx
    · exact ht
    · exact c.names x hx
  unfold ks at this
  rw [List.length_map, List.length_cons] at this
  omega
section
variable {W : List (Str × List Str)} {x : Str} {wn : List Str}
theorem Cw.keep {w l r : List Str} (a : Cw W w l r) : x ∉ l → Cw (pt W x wn) w l r := by
  induction a with
  | top h => intro _; exact .top h
  | up hh e c ih =>
    intro hx
    rw [List.mem_cons, not_or] at hx
    exact .up hh (by rw [gt_pt_ne (fun z => hx.1 z.symm)]; exact e) (ih hx.2)
/-- a where to which x may go -/
def May (W : List (Str × List Str)) (x : Str) (wn : List Str) : Prop := Root wn ∨ ∃ h w l r, Held wn h ∧ gt W h = some w ∧ Cw W w l r ∧ x ∉ h :: l
theorem May.up (m : May W x wn) : ∃ l r, Cw W wn l r ∧ x ∉ l := by
  rcases m with m | ⟨h, w, l, r, hh, e, c, hx⟩
  · exact ⟨[], wn, .top m, by simp⟩
  · exact ⟨h :: l, r, .up hh e c, hx⟩
theorem Good.pt (g : Good W) (hx : x ∈ ks W) (m : May W x wn) : Good (pt W x wn) := by
  obtain ⟨ln, rn, cn, hxn⟩ := m.up
  have new : Cw (K20.pt W x wn) wn ln rn := cn.keep hxn
  have all : ∀ {w l r : List Str}, Cw W w l r → ∃ l' r', Cw (K20.pt W x wn) w l' r' := fun {w l r} a => by
    induction a with
    | top h => exact ⟨[], _, .top h⟩
    | @up w w' l r h hh e c ih =>
      by_cases q : h = x
      · subst q
        exact ⟨_, _, .up hh gt_pt_same new⟩
      · obtain ⟨l', r', c'⟩ := ih
        exact ⟨_, _, .up hh (by rw [gt_pt_ne q]; exact e) c'⟩
  intro t ht
  rw [ks_pt hx] at ht
  by_cases q : t = x
  · subst q
    exact ⟨wn, ln, rn, gt_pt_same, new⟩
  · obtain ⟨w, l, r, e, c⟩ := g t ht
    obtain ⟨l', r', c'⟩ := all c
    exact ⟨w, l', r', by rw [gt_pt_ne q]; exact e, c'⟩
theorem gt_snoc {k : Str} {v : List Str} (hk : k ∉ ks W) {t : Str} {w : List Str} (e : gt W t = some w) : gt (W ++ [(k, v)]) t = some w := by
  rw [← pt_new hk, gt_pt_ne (fun z => hk (by rw [← z]; exact gt_ks e))]; exact e
theorem Cw.snoc {k : Str} {v : List Str} (hk : k ∉ ks W) {w l r : List Str} (a : Cw W w l r) : Cw (W ++ [(k, v)]) w l r := by
  induction a with
  | top h => exact .top h
  | up hh e c ih => exact .up hh (gt_snoc hk e) ih
theorem Good.snoc {k : Str} {v : List Str} (g : Good W) (hk : k ∉ ks W) (m : Root v ∨ ∃ h, Held v h ∧ h ∈ ks W) : Good (W ++ [(k, v)]) := by
  intro t ht
  unfold ks at ht
  rw [List.map_append, List.mem_append] at ht
  rcases ht with ht | ht
  · obtain ⟨w, l, r, e, c⟩ := g t ht
    exact ⟨w, l, r, gt_snoc hk e, c.snoc hk⟩
  · have : t = k := by simpa using ht
    subst this
    have e : gt (W ++ [(t, v)]) t = some v := by rw [← pt_new hk]; exact gt_pt_same
    rcases m with m | ⟨h, hh, hm⟩
    · exact ⟨v, [], v, e, .top m⟩
    · obtain ⟨w, l, r, e2, c⟩ := g h hm
      exact ⟨v, h :: l, r, e, .up hh (gt_snoc hk e2) (c.snoc hk)⟩
end
def whs (rows : List Row) : List (Str × List Str) := rows.map fun r => (r.name, r.wh)
theorem ks_whs (rows : List Row) : ks (whs rows) = rows.map (·.name) := by unfold ks whs; rw [List.map_map]; rfl
theorem ks_rl (rows : List Row) : ks (rl rows) = rows.map (·.name) := by unfold ks rl; rw [List.map_map]; rfl
end K20
namespace K20
open PySem L2 Mi
local macro_rules
  | `(tactic| simp_arith [$ts,*]) => `(tactic| simp (disch := first | assumption | omega | (simp only [List.length_cons, List.length_nil, List.length_map, List.length_append]; done) | (simp only [List.length_cons, List.length_nil, List.length_map, List.length_append]; omega)) only [↓reduceIte, r_seq, seq_nx, seq_rt, seq_no, seq_ex, seq_bk, seq_ct, OS_turn_nx, OS_turn_ct, OS_turn_rt, OS_turn_bk, turn_ex, O_bind_ok, O_bind_ex, O_bind_no, O_toS_ok, O_toS_ex, O_toS_no, O_strict_ok, r_var0, r_varS, r_C, r_nil, r_un, r_app, r_lst, r_tup, r_yes, r_nopart, r_snil, r_break, r_cont, r_retN, q_bin, q_bin2, q_cons, q_cons1, q_cons2, q_meth, q_meth1, q_tru, q_tru1, q_truO, q_test, q_test1, q_notT, q_notT1, q_andT, q_andTt, q_andTf, q_orT, q_orTt, q_orTf, q_ifE, q_ifT, q_iteT, q_iteF, q_andV, q_andV1, q_andOt, q_andOf, q_orV, q_orV1, q_orOt, q_orOf, q_notV, q_notV1, q_notO, q_chain, q_chain1, q_chain2, q_chain3t, q_chain3f, q_part, q_part1, q_sl, q_sl1, q_sl2, q_sl3, q_items, q_items1, q_srcO, q_enum, q_enum1, q_enumO, q_pnil, q_pair, q_pair1, q_pair2, q_pair3, q_disp, q_zip, q_zip1, q_zip2, zipS_tt, zipS_ll, q_range1, q_range11, q_range2, q_range21, q_range3, q_isi, q_isi1, q_isiO, q_isc, q_isc1, q_iscO, q_call, q_call1, q_attr, q_attr1, q_attrO, q_attrO2, q_mth, q_mth1, q_mthO, q_mth2, q_mth3, q_make, q_make1, q_asg, q_asg1, q_asgO, q_expr, q_expr1, q_ret, q_ret1, q_if, q_ift, q_iff, q_whilet, q_whilef, q_atr, q_atr1, q_atr2, q_aa1, q_aa2, q_aa3, q_aa4, q_step, q_step1, q_step2, insAt_ref, q_insO, setAt_ref, q_setO, isNonO_non, putD, bindT, setD, wipeD, List.map_cons, List.map_nil, List.replicate, List.set_cons_zero, List.set_cons_succ, List.cons_append, List.nil_append, List.append_nil, List.length_cons, List.length_nil, Nat.reduceAdd, Nat.reduceSub, Nat.reduceEqDiff, Nat.reduceLT, Int.reduceLT, Int.reduceLE, Int.reduceEq, Nat.zero_add, Nat.add_zero, e_ints, e_bls, e_strs, sgnT, sgnF, l_ints, a_ints, s_ints, tru_bl, len_str, ty_str, ty_int, ty_bl, ty_non, ty_lst, ty_tup, ty_frz, ty_dct, tyOf_ref, lt_ii, gt_ii, ge_ii, neg_i, is_non, isNon_non, isNon_str, isNon_lst, isNon_tup, isNon_ref, isNon_int, lstOf_ref, lstOf_lst, lstOf_frz, seqOf_tup, seqOf_frz, seqOf_lst, seqOf_ref, listOf_frz, listOf_lst, listOf_ref, listG_frz, listG_lst, listG_ref, items_lst, items_frz, items_tup, items_str, items_ref, rdOf_ref, rdOf_lst, rdOf_tup, rdOf_frz, rdOf_str, rdOf_dct, dctOf_ref, dctOf_lst, dctOf_tup, dctOf_frz, dctOf_str, dctOf_dct, len_lst, len_tup, len_frz, len_ref, list_any, tuple_tup, tuple_lst, tuple_frz, tuple_ref, int_int, int_bl, mkL_t, mkL_f, mkT_ok, append_ref, clear_ref, if_sz, tyD_ref, tyD_str, tyD_lst, add_lr, add_rl, add_rr, add_ll, add_tt, add_ss, mod_ii, div_ii, mul_ii, List.lookup_cons, beq_self_eq_true, Bool.and_true, Bool.true_and, Bool.or_true, Bool.true_or, Bool.false_or, Bool.or_false, Bool.false_and, Bool.and_false, Bool.not_true, Bool.not_false, Bool.false_eq_true, Bool.true_eq_false, Option.isSome_some, Option.isSome_none, Option.map_some, Option.map_none, decide_true, decide_false, if_true, if_false, get_at, get_at_add, set_at, set_at_add, List.append_assoc, List.getElem?_cons_zero, List.getElem?_cons_succ, in_tup, in_lst, and_true, true_and, and_self, $ts,*])
variable {n : Nat} {st : Store}
theorem eqv_ss : ∀ a b : List Str, PyData.eqvAll (toPys (Ss a)) (toPys (Ss b)) = decide (a = b)
  | [], [] => by simp [toPys, PyData.eqvAll]
  | [], _ :: _ => by simp [toPys, PyData.eqvAll]
  | _ :: _, [] => by simp [toPys, PyData.eqvAll]
  | x :: a, y :: b => by
    show PyData.eqvAll (toPy (.str x) :: toPys (Ss a)) (toPy (.str y) :: toPys (Ss b)) = _
    rw [PyData.eqvAll, eqv_ss a b, show PyData.eqv (toPy (.str x)) (toPy (.str y)) = decide (x = y) from eqD_str x y]
    by_cases h : x = y <;> simp [h]
theorem eq_dW {a b : List Str} (ng : Bool) : dEq ng (dW a) (dW b) st = .ok (.bl (sgn ng (decide (a = b)))) st := by
  have d : ∀ c : List Str, deep 64 st (dW c) = some (dW c) := fun c => by
    show (sq ((Ss c).map (deep 63 st))).map D.tup = _
    rw [sq_strs]; rfl
  have e : eqD (dW a) (dW b) = decide (a = b) := by
    unfold eqD dW
    rw [toPy, toPy, PyData.eqv, eqv_ss]
  unfold dEq
  rw [d, d]
  show O.ok (D.bl (if ng = true then !eqD (dW a) (dW b) else eqD (dW a) (dW b))) st = _
  rw [e]; rfl
def wW : List Str := ["with"]
theorem wW_eq : D.tup [.str "with"] = dW wW := rfl
section
variable {G : Gw} {I : SI} {S : Sx}
theorem set_at_ne {i j : Nat} {o : Ob} (h : i ≠ j) : (st.set i o)[j]? = st[j]? := List.getElem?_set_ne h
theorem StAt.set_wh (h : StAt st G I S) (W : List (Str × List Str)) : StAt (st.set I.wh (.dct (kv dW W))) G I { S with wh := W } := by
  have nd := h.nd
  simp only [SI.ix, List.nodup_cons, List.mem_cons, List.not_mem_nil, or_false, not_or, List.nodup_nil, and_true, not_false_eq_true] at nd
  exact ⟨by rw [set_at_ne (by omega)]; exact h.me, by rw [set_at_ne (by omega)]; exact h.rw, List.getElem?_set_self (lt_of_get h.wh), by rw [set_at_ne (by omega)]; exact h.ld, by rw [set_at_ne (by omega)]; exact h.dr, by rw [set_at_ne (by omega)]; exact h.ct, h.nd⟩
theorem StAt.set_ld (h : StAt st G I S) (W : List (Str × Bool)) : StAt (st.set I.ld (.dct (kv D.bl W))) G I { S with ld := W } := by
  have nd := h.nd
  simp only [SI.ix, List.nodup_cons, List.mem_cons, List.not_mem_nil, or_false, not_or, List.nodup_nil, and_true, not_false_eq_true] at nd
  exact ⟨by rw [set_at_ne (by omega)]; exact h.me, by rw [set_at_ne (by omega)]; exact h.rw, by rw [set_at_ne (by omega)]; exact h.wh, List.getElem?_set_self (lt_of_get h.ld), by rw [set_at_ne (by omega)]; exact h.dr, by rw [set_at_ne (by omega)]; exact h.ct, h.nd⟩
theorem StAt.set_dr (h : StAt st G I S) (W : List (Str × Bool)) : StAt (st.set I.dr (.dct (kv D.bl W))) G I { S with dr := W } := by
  have nd := h.nd
  simp only [SI.ix, List.nodup_cons, List.mem_cons, List.not_mem_nil, or_false, not_or, List.nodup_nil, and_true, not_false_eq_true] at nd
  exact ⟨by rw [set_at_ne (by omega)]; exact h.me, by rw [set_at_ne (by omega)]; exact h.rw, by rw [set_at_ne (by omega)]; exact h.wh, by rw [set_at_ne (by omega)]; exact h.ld, List.getElem?_set_self (lt_of_get h.dr), by rw [set_at_ne (by omega)]; exact h.ct, h.nd⟩
theorem StAt.set_ct (h : StAt st G I S) (W : List (Str × Int)) : StAt (st.set I.ct (.dct (kv D.int W))) G I { S with ct := W } := by
  have nd := h.nd
  simp only [SI.ix, List.nodup_cons, List.mem_cons, List.not_mem_nil, or_false, not_or, List.nodup_nil, and_true, not_false_eq_true] at nd
  exact ⟨by rw [set_at_ne (by omega)]; exact h.me, by rw [set_at_ne (by omega)]; exact h.rw, by rw [set_at_ne (by omega)]; exact h.wh, by rw [set_at_ne (by omega)]; exact h.ld, by rw [set_at_ne (by omega)]; exact h.dr, List.getElem?_set_self (lt_of_get h.ct), h.nd⟩
theorem StAt.set_me (h : StAt st G I S) (p : Str) (m : Int) : StAt (st.set I.me (.ins cS (sfs G I p m))) G I { S with spot := p, mom := m } := by
  have nd := h.nd
  simp only [SI.ix, List.nodup_cons, List.mem_cons, List.not_mem_nil, or_false, not_or, List.nodup_nil, and_true, not_false_eq_true] at nd
  exact ⟨List.getElem?_set_self (lt_of_get h.me), by rw [set_at_ne (by omega)]; exact h.rw, by rw [set_at_ne (by omega)]; exact h.wh, by rw [set_at_ne (by omega)]; exact h.ld, by rw [set_at_ne (by omega)]; exact h.dr, by rw [set_at_ne (by omega)]; exact h.ct, h.nd⟩
/-- what a deed leaves -/
structure Did (st st' : Store) (G : Gw) (I : SI) (S' : Sx) : Prop where
  at_ : StAt st' G I S'
  gr : Gr (fun k => k ∈ I.ix) st st'
  len : st'.length = st.length
def mv (S : Sx) (x : Str) (w : List Str) : Sx := { S with wh := pt S.wh x w, dr := if w = wW then S.dr else pt S.dr x false }
theorem move_run (h : StAt st G I S) (ok : Sok G S) {x : Str} {w : List Str} {r : Row} (hr : gt (rl G.rows) x = some r) (nd : ("door" : Str) ∉ r.trs) (hw : Wr G w) (hm : May S.wh x w) (hl : ∀ l r, Cw S.wh w l r → l.length ≤ 1000) :
    ∃ st', cF (n + 3) i_M_State_move_thing [.ref I.me, .str x, dW w] st = .ok .non st' ∧ Did st st' G I (mv S x w) := by
  have hx := gt_ks hr
  obtain ⟨l, q, c, hxl⟩ := hm.up
  have e0 : startD N_M_State_move_thing.length [.ref I.me, .str x, dW w] = [some (.ref I.me), some (.str x), some (dW w)] := rfl
  have e1 := need_run (n := n + 1) h hx
  have e2 := ix_kv (rd_ref h.rw) hr
  have e3 : dIx r.d (.int 4) st = .ok (.tup (Ss r.trs)) st := rfl
  have e4 := isw_run (n := n) h hw
  have e5 := ring_run (n := n + 1) h c hxl (hl l q c)
  have lw := ok.lwh
  have ld := ok.ldr
  have e6 := fun ρ => sto_kv (f := dW) (v := w) (k := x) (ρ := ρ) h.wh (by omega)
  have h2 := h.set_wh (pt S.wh x w)
  have e7 := fun (st : Store) => eq_dW (st := st) (a := w) (b := wW) true
  by_cases cw : w = wW
  · have dcw : decide (w = wW) = true := decide_eq_true cw
    refine ⟨st.set I.wh (.dct (kv dW (pt S.wh x w))), cn rfl rfl B_M_State_move_thing (ρ := [some (.ref I.me), some (.str x), some (dW w)]) ?_, ⟨?_, Gr.set (by simp [SI.ix]), List.length_set⟩⟩
    · unfold P_M_State_move_thing
      simp_arith [e0, h.me, insO_s, q_attr, q_mth, mt1, lm1, e1, fs2, ls2, e2, e3, nd, mt4, lm4, e4, mt5, lm5, e5, q_sto, q_sto1, q_sto2, q_sto3, fs7, ls7, e6, wW_eq, e7, dcw]
    · unfold mv
      rw [if_pos cw]
      exact h2
  · have e8 := fun ρ => sto_kv (f := D.bl) (v := false) (k := x) (ρ := ρ) h2.dr (by show S.dr.length ≤ _; omega)
    refine ⟨(st.set I.wh (.dct (kv dW (pt S.wh x w)))).set I.dr (.dct (kv D.bl (pt S.dr x false))), cn rfl rfl B_M_State_move_thing (ρ := [some (.ref I.me), some (.str x), some (dW w)]) ?_, ⟨?_, (Gr.set (by simp [SI.ix])).trans (Gr.set (by simp [SI.ix])), by rw [List.length_set, List.length_set]⟩⟩
    · unfold P_M_State_move_thing
      have hm2 := h2.me
      dsimp only at hm2 e8
      simp_arith [e0, h.me, insO_s, q_attr, q_mth, mt1, lm1, e1, fs2, ls2, e2, e3, nd, mt4, lm4, e4, mt5, lm5, e5, q_sto, q_sto1, q_sto2, q_sto3, fs7, ls7, e6, wW_eq, e7, cw, hm2, fs9, ls9, e8]
    · have h3 := h2.set_dr (pt S.dr x false)
      unfold mv
      rw [if_neg cw]
      exact h3
theorem num_run (h : StAt st G I S) {x : Str} {v : Int} (hx : gt S.ct x = some v) : cF (n + 1) i_M_State_number_of [.ref I.me, .str x] st = .ok (.int v) st := by
  refine cp rfl rfl B_M_State_number_of ?_ rfl
  have e0 : startD N_M_State_number_of.length [.ref I.me, .str x] = [some (.ref I.me), some (.str x)] := rfl
  have e1 := in_kv (ng := true) (k := x) (rd_ref h.ct)
  have e2 : (["str"].any (subT "str")) = true := rfl
  have e3 := ix_kv (rd_ref h.ct) hx
  have hk := gt_ks hx
  unfold P_M_State_number_of
  simp_arith [e0, h.me, insO_s, q_attr, fs10, ls10, e1, e2, hk, e3]
theorem setn_run (h : StAt st G I S) (ok : Sok G S) {x : Str} {v : Int} (hx : x ∈ ks S.ct) (hv : 0 ≤ v ∧ v ≤ 9) : ∃ st', cF (n + 2) i_M_State_set_number [.ref I.me, .str x, .int v] st = .ok .non st' ∧ Did st st' G I { S with ct := pt S.ct x v } := by
  have e0 : startD N_M_State_set_number.length [.ref I.me, .str x, .int v] = [some (.ref I.me), some (.str x), some (.int v)] := rfl
  obtain ⟨u, hu⟩ := gt_some hx
  have e1 := num_run (n := n) h hu
  have e2 : (["int"].any (subT "int")) = true := rfl
  have e3 : (["bool"].any (subT "int")) = false := rfl
  have := ok.lc
  have e4 := fun ρ => sto_kv (f := D.int) (v := v) (k := x) (ρ := ρ) h.ct (by omega)
  have e5 : dLe (.int 0) (.int v) st = .ok (.bl (decide (0 ≤ v))) st := rfl
  have e6 : dLe (.int v) c_MOST_NUMBER st = .ok (.bl (decide (v ≤ 9))) st := rfl
  have d1 : decide (0 ≤ v) = true := decide_eq_true hv.1
  have d2 : decide (v ≤ 9) = true := decide_eq_true hv.2
  refine ⟨st.set I.ct (.dct (kv D.int (pt S.ct x v))), cn rfl rfl B_M_State_set_number (ρ := [some (.ref I.me), some (.str x), some (.int v)]) ?_, ⟨h.set_ct _, Gr.set (by simp [SI.ix]), List.length_set⟩⟩
  unfold P_M_State_set_number
  simp_arith [e0, h.me, insO_s, q_attr, q_mth, mt6, lm6, e1, e2, e3, e5, e6, d1, d2, fs10, ls10, q_sto, q_sto1, q_sto2, q_sto3, e4]
end
end K20
namespace K20
open PySem L2 Mi
local macro_rules
  | `(tactic| simp_arith [$ts,*]) => `(tactic| simp (disch := first | assumption | omega | (simp only [List.length_cons, List.length_nil, List.length_map, List.length_append]; done) | (simp only [List.length_cons, List.length_nil, List.length_map, List.length_append]; omega)) only [↓reduceIte, r_seq, seq_nx, seq_rt, seq_no, seq_ex, seq_bk, seq_ct, OS_turn_nx, OS_turn_ct, OS_turn_rt, OS_turn_bk, turn_ex, O_bind_ok, O_bind_ex, O_bind_no, O_toS_ok, O_toS_ex, O_toS_no, O_strict_ok, r_var0, r_varS, r_C, r_nil, r_un, r_app, r_lst, r_tup, r_yes, r_nopart, r_snil, r_break, r_cont, r_retN, q_bin, q_bin2, q_cons, q_cons1, q_cons2, q_meth, q_meth1, q_tru, q_tru1, q_truO, q_test, q_test1, q_notT, q_notT1, q_andT, q_andTt, q_andTf, q_orT, q_orTt, q_orTf, q_ifE, q_ifT, q_iteT, q_iteF, q_andV, q_andV1, q_andOt, q_andOf, q_orV, q_orV1, q_orOt, q_orOf, q_notV, q_notV1, q_notO, q_chain, q_chain1, q_chain2, q_chain3t, q_chain3f, q_part, q_part1, q_sl, q_sl1, q_sl2, q_sl3, q_items, q_items1, q_srcO, q_enum, q_enum1, q_enumO, q_pnil, q_pair, q_pair1, q_pair2, q_pair3, q_disp, q_zip, q_zip1, q_zip2, zipS_tt, zipS_ll, q_range1, q_range11, q_range2, q_range21, q_range3, q_isi, q_isi1, q_isiO, q_isc, q_isc1, q_iscO, q_call, q_call1, q_attr, q_attr1, q_attrO, q_attrO2, q_mth, q_mth1, q_mthO, q_mth2, q_mth3, q_make, q_make1, q_asg, q_asg1, q_asgO, q_expr, q_expr1, q_ret, q_ret1, q_if, q_ift, q_iff, q_whilet, q_whilef, q_atr, q_atr1, q_atr2, q_aa1, q_aa2, q_aa3, q_aa4, q_step, q_step1, q_step2, insAt_ref, q_insO, setAt_ref, q_setO, isNonO_non, putD, bindT, setD, wipeD, List.map_cons, List.map_nil, List.replicate, List.set_cons_zero, List.set_cons_succ, List.cons_append, List.nil_append, List.append_nil, List.length_cons, List.length_nil, Nat.reduceAdd, Nat.reduceSub, Nat.reduceEqDiff, Nat.reduceLT, Int.reduceLT, Int.reduceLE, Int.reduceEq, Nat.zero_add, Nat.add_zero, e_ints, e_bls, e_strs, sgnT, sgnF, l_ints, a_ints, s_ints, tru_bl, len_str, ty_str, ty_int, ty_bl, ty_non, ty_lst, ty_tup, ty_frz, ty_dct, tyOf_ref, lt_ii, gt_ii, ge_ii, neg_i, is_non, isNon_non, isNon_str, isNon_lst, isNon_tup, isNon_ref, isNon_int, lstOf_ref, lstOf_lst, lstOf_frz, seqOf_tup, seqOf_frz, seqOf_lst, seqOf_ref, listOf_frz, listOf_lst, listOf_ref, listG_frz, listG_lst, listG_ref, items_lst, items_frz, items_tup, items_str, items_ref, rdOf_ref, rdOf_lst, rdOf_tup, rdOf_frz, rdOf_str, rdOf_dct, dctOf_ref, dctOf_lst, dctOf_tup, dctOf_frz, dctOf_str, dctOf_dct, len_lst, len_tup, len_frz, len_ref, list_any, tuple_tup, tuple_lst, tuple_frz, tuple_ref, int_int, int_bl, mkL_t, mkL_f, mkT_ok, append_ref, clear_ref, if_sz, tyD_ref, tyD_str, tyD_lst, add_lr, add_rl, add_rr, add_ll, add_tt, add_ss, mod_ii, div_ii, mul_ii, List.lookup_cons, beq_self_eq_true, Bool.and_true, Bool.true_and, Bool.or_true, Bool.true_or, Bool.false_or, Bool.or_false, Bool.false_and, Bool.and_false, Bool.not_true, Bool.not_false, Bool.false_eq_true, Bool.true_eq_false, Option.isSome_some, Option.isSome_none, Option.map_some, Option.map_none, decide_true, decide_false, if_true, if_false, get_at, get_at_add, set_at, set_at_add, List.append_assoc, List.getElem?_cons_zero, List.getElem?_cons_succ, in_tup, in_lst, and_true, true_and, and_self, $ts,*])
variable {n : Nat} {st : Store}
/-! ### told, made, copied -/
def on (l : List (Str × Bool)) : List Str := (ks l).filter fun x => (gt l x).getD false
def tld (S : Sx) : D := .tup [.str S.spot, .int S.mom, .tup (S.wh.map fun p => dW p.2), .tup (Ss (on S.ld)), .tup (Ss (on S.dr)), .tup (S.ct.map fun p => .int p.2)]
theorem on_len (l : List (Str × Bool)) : (on l).length ≤ l.length := by
  unfold on
  exact Nat.le_trans (List.length_filter_le _ _) (by unfold ks; rw [List.length_map]; exact Nat.le_refl _)
theorem ss_of (l : List Str) : (l.map fun x => D.str x) = Ss l := rfl
section
variable {G : Gw} {I : SI} {S : Sx}
theorem tld_tr (ok : Sok G S) : Tr 4 (tld S) := by
  have h1 := ok.lwh
  have h2 := ok.ldr
  have h3 := ok.ll
  have h4 := ok.lc
  have o1 := on_len S.ld
  have o2 := on_len S.dr
  refine .tup (fun x hx => ?_) (by simp)
  simp only [List.mem_cons, List.not_mem_nil, or_false] at hx
  rcases hx with rfl | rfl | rfl | rfl | rfl | rfl
  · exact .str _ _
  · exact .int _ _
  · refine .tup (fun y hy => ?_) (by rw [List.length_map]; omega)
    obtain ⟨p, hp, rfl⟩ := List.mem_map.mp hy
    have := ok.lw p hp
    exact .tup (Tr.ss 0 _) (by rw [List.length_map]; omega)
  · exact .tup (Tr.ss 1 _) (by rw [List.length_map]; omega)
  · exact .tup (Tr.ss 1 _) (by rw [List.length_map]; omega)
  · refine .tup (fun y hy => ?_) (by rw [List.length_map]; omega)
    obtain ⟨p, hp, rfl⟩ := List.mem_map.mp hy
    exact .int _ _
/-- the keys of a dict of truths that are true -/
theorem on_run {l : List (Str × Bool)} {i : Nat} {a : M D} {ρ : Rho} {k : Nat} (h : st[i]? = some (.dct (kv D.bl l))) (hl : l.length ≤ 1000)
    (ha : a ρ st = .ok (.ref i) st) (ha2 : a ρ (st.set i (.lck (kv D.bl l))) = .ok (.ref i) (st.set i (.lck (kv D.bl l))))
    (ha3 : ∀ x : Str, a ((wipeD ρ [k]).set k (some (.str x))) (st.set i (.lck (kv D.bl l))) = .ok (.ref i) (st.set i (.lck (kv D.bl l)))) (hk : ∀ x : Str, mVar k ((wipeD ρ [k]).set k (some (.str x))) (st.set i (.lck (kv D.bl l))) = .ok (.str x) (st.set i (.lck (kv D.bl l)))) :
    mLock a (mLc false (mKeys a) (.one k) [k] (mTru (mBin dIx a (mVar k))) (mVar k)) ρ st = .ok (.lst (Ss (on l))) st := by
  rw [← ss_of, show on l = (ks l).filter (fun x => (gt l x).getD false) from rfl]
  refine lock_kv h hl ha ha2 fun x hx => ⟨_, rfl, ?_, fun _ => hk x⟩
  obtain ⟨v, hv⟩ := gt_some hx
  have e1 := ix_kv (f := D.bl) (st := st.set i (.lck (kv D.bl l))) (rd_lck (List.getElem?_set_self (lt_of_get h))) hv
  have e2 : a ((ρ.set k none).set k (some (.str x))) (st.set i (.lck (kv D.bl l))) = .ok (.ref i) (st.set i (.lck (kv D.bl l))) := ha3 x
  have e3 : mVar k ((ρ.set k none).set k (some (.str x))) (st.set i (.lck (kv D.bl l))) = .ok (.str x) (st.set i (.lck (kv D.bl l))) := hk x
  simp_arith [e2, e3, e1, hv]
  rfl
theorem stold_run (h : StAt st G I S) (ok : Sok G S) : cF (n + 1) i_M_State_told [.ref I.me] st = .ok (tld S) st := by
  refine cp rfl rfl B_M_State_told ?_ ((tld_tr ok).fz (by decide))
  have e0 : startD N_M_State_told.length [.ref I.me] = [some (.ref I.me), none, none, none] := rfl
  have nd := h.nd
  simp only [SI.ix, List.nodup_cons, List.mem_cons, List.not_mem_nil, or_false, not_or, List.nodup_nil, and_true, not_false_eq_true] at nd
  have h1 := ok.lwh
  have h2 := ok.ldr
  have h3 := ok.ll
  have h4 := ok.lc
  have o1 := on_len S.ld
  have o2 := on_len S.dr
  have a1 : ∀ (f : Str) (i : Nat) (st' : Store) (r : Rho), st'[I.me]? = some (.ins cS (sfs G I S.spot S.mom)) → f ∈ fldF cS → (sfs G I S.spot S.mom).lookup f = some (.ref i) → mAttr fldF f (mVar 0) (some (.ref I.me) :: r) st' = .ok (.ref i) st' := fun f i st' r q1 q2 q3 => by
    simp_arith [q_attr, q1, insO_s, q2, q3]
  have m1 : (st.set I.ld (.lck (kv D.bl S.ld)))[I.me]? = some (.ins cS (sfs G I S.spot S.mom)) := by rw [set_at_ne (by omega)]; exact h.me
  have m2 : (st.set I.dr (.lck (kv D.bl S.dr)))[I.me]? = some (.ins cS (sfs G I S.spot S.mom)) := by rw [set_at_ne (by omega)]; exact h.me
  have e1 := on_run (k := 2) (a := mAttr fldF "lids" (mVar 0)) (ρ := [some (.ref I.me), none, none, none]) h.ld (by omega) (a1 _ _ _ _ h.me fs8 ls8) (a1 _ _ _ _ m1 fs8 ls8) (fun x => a1 _ _ _ _ m1 fs8 ls8) (fun x => rfl)
  have e2 := on_run (k := 2) (a := mAttr fldF "dressed" (mVar 0)) (ρ := [some (.ref I.me), some (.tup (Ss (on S.ld))), none, none]) h.dr (by omega) (a1 _ _ _ _ h.me fs9 ls9) (a1 _ _ _ _ m2 fs9 ls9) (fun x => a1 _ _ _ _ m2 fs9 ls9) (fun x => rfl)
  have e3 := vals_kv' h.wh (by omega)
  have e4 := vals_kv' h.ct (by omega)
  have q1 : (Ss (on S.ld)).length ≤ 16777216 := by rw [List.length_map]; omega
  have q2 : (Ss (on S.dr)).length ≤ 16777216 := by rw [List.length_map]; omega
  have q3 : (S.wh.map fun p => dW p.2).length ≤ 16777216 := by rw [List.length_map]; omega
  have q4 : (S.ct.map fun p => D.int p.2).length ≤ 16777216 := by rw [List.length_map]; omega
  unfold P_M_State_told tld
  simp_arith [e0, e1, e2, q1, q2, h.me, insO_s, q_attr, fs5, ls5, fs6, ls6, fs7, ls7, fs10, ls10, e3, e4, q3, q4]
/-! ### holder_chain, root_of -/
end
end K20
namespace K20
open PySem L2 Mi
local macro_rules
  | `(tactic| simp_arith [$ts,*]) => `(tactic| simp (disch := first | assumption | omega | (simp only [List.length_cons, List.length_nil, List.length_map, List.length_append]; done) | (simp only [List.length_cons, List.length_nil, List.length_map, List.length_append]; omega)) only [↓reduceIte, r_seq, seq_nx, seq_rt, seq_no, seq_ex, seq_bk, seq_ct, OS_turn_nx, OS_turn_ct, OS_turn_rt, OS_turn_bk, turn_ex, O_bind_ok, O_bind_ex, O_bind_no, O_toS_ok, O_toS_ex, O_toS_no, O_strict_ok, r_var0, r_varS, r_C, r_nil, r_un, r_app, r_lst, r_tup, r_yes, r_nopart, r_snil, r_break, r_cont, r_retN, q_bin, q_bin2, q_cons, q_cons1, q_cons2, q_meth, q_meth1, q_tru, q_tru1, q_truO, q_test, q_test1, q_notT, q_notT1, q_andT, q_andTt, q_andTf, q_orT, q_orTt, q_orTf, q_ifE, q_ifT, q_iteT, q_iteF, q_andV, q_andV1, q_andOt, q_andOf, q_orV, q_orV1, q_orOt, q_orOf, q_notV, q_notV1, q_notO, q_chain, q_chain1, q_chain2, q_chain3t, q_chain3f, q_part, q_part1, q_sl, q_sl1, q_sl2, q_sl3, q_items, q_items1, q_srcO, q_enum, q_enum1, q_enumO, q_pnil, q_pair, q_pair1, q_pair2, q_pair3, q_disp, q_zip, q_zip1, q_zip2, zipS_tt, zipS_ll, q_range1, q_range11, q_range2, q_range21, q_range3, q_isi, q_isi1, q_isiO, q_isc, q_isc1, q_iscO, q_call, q_call1, q_attr, q_attr1, q_attrO, q_attrO2, q_mth, q_mth1, q_mthO, q_mth2, q_mth3, q_make, q_make1, q_asg, q_asg1, q_asgO, q_expr, q_expr1, q_ret, q_ret1, q_if, q_ift, q_iff, q_whilet, q_whilef, q_atr, q_atr1, q_atr2, q_aa1, q_aa2, q_aa3, q_aa4, q_step, q_step1, q_step2, insAt_ref, q_insO, setAt_ref, q_setO, isNonO_non, putD, bindT, setD, wipeD, List.map_cons, List.map_nil, List.replicate, List.set_cons_zero, List.set_cons_succ, List.cons_append, List.nil_append, List.append_nil, List.length_cons, List.length_nil, Nat.reduceAdd, Nat.reduceSub, Nat.reduceEqDiff, Nat.reduceLT, Int.reduceLT, Int.reduceLE, Int.reduceEq, Nat.zero_add, Nat.add_zero, e_ints, e_bls, e_strs, sgnT, sgnF, l_ints, a_ints, s_ints, tru_bl, len_str, ty_str, ty_int, ty_bl, ty_non, ty_lst, ty_tup, ty_frz, ty_dct, tyOf_ref, lt_ii, gt_ii, ge_ii, neg_i, is_non, isNon_non, isNon_str, isNon_lst, isNon_tup, isNon_ref, isNon_int, lstOf_ref, lstOf_lst, lstOf_frz, seqOf_tup, seqOf_frz, seqOf_lst, seqOf_ref, listOf_frz, listOf_lst, listOf_ref, listG_frz, listG_lst, listG_ref, items_lst, items_frz, items_tup, items_str, items_ref, rdOf_ref, rdOf_lst, rdOf_tup, rdOf_frz, rdOf_str, rdOf_dct, dctOf_ref, dctOf_lst, dctOf_tup, dctOf_frz, dctOf_str, dctOf_dct, len_lst, len_tup, len_frz, len_ref, list_any, tuple_tup, tuple_lst, tuple_frz, tuple_ref, int_int, int_bl, mkL_t, mkL_f, mkT_ok, append_ref, clear_ref, if_sz, tyD_ref, tyD_str, tyD_lst, add_lr, add_rl, add_rr, add_ll, add_tt, add_ss, mod_ii, div_ii, mul_ii, List.lookup_cons, beq_self_eq_true, Bool.and_true, Bool.true_and, Bool.or_true, Bool.true_or, Bool.false_or, Bool.or_false, Bool.false_and, Bool.and_false, Bool.not_true, Bool.not_false, Bool.false_eq_true, Bool.true_eq_false, Option.isSome_some, Option.isSome_none, Option.map_some, Option.map_none, decide_true, decide_false, if_true, if_false, get_at, get_at_add, set_at, set_at_add, List.append_assoc, List.getElem?_cons_zero, List.getElem?_cons_succ, in_tup, in_lst, and_true, true_and, and_self, $ts,*])
variable {n : Nat} {st : Store}
/-! ### a state is made -/
def lidsOf (rows : List Row) : List (Str × Bool) := (rows.filter fun r => decide (("box" : Str) ∈ r.trs) || decide (("door" : Str) ∈ r.trs)).map fun r => (r.name, !decide (("shut" : Str) ∈ r.trs))
def drs (rows : List Row) : List (Str × Bool) := rows.map fun r => (r.name, false)
def S0 (p : Str) (rows : List Row) (sts : List (Str × Int)) : Sx := ⟨p, 0, whs rows, lidsOf rows, drs rows, mg [] sts⟩
def G0 (w : Nat) (rows : List Row) (pl : List (Str × Bool)) (ways : List Way) : Gw := ⟨w, rows, mg [] pl, Ws ways⟩
theorem ks_drs (rows : List Row) : ks (drs rows) = rows.map (·.name) := by unfold ks drs; rw [List.map_map]; rfl
theorem ks_lids (rows : List Row) : ks (lidsOf rows) = (rows.filter fun r => decide (("box" : Str) ∈ r.trs) || decide (("door" : Str) ∈ r.trs)).map (·.name) := by unfold ks lidsOf; rw [List.map_map]; rfl
theorem sub_nodup {α β : Type} (f : α → β) (p : α → Bool) {l : List α} (h : (l.map f).Nodup) : ((l.filter p).map f).Nodup := h.sublist (List.Sublist.map f (List.filter_sublist))
theorem s0_ok {w : Nat} {p : Str} {rows : List Row} {sts : List (Str × Int)} {pl : List (Str × Bool)} {ways : List Way} (hr : ∀ r ∈ rows, r.ok) (hl : rows.length ≤ 12) (hs : sts.length ≤ 6) : Sok (G0 w rows pl ways) (S0 p rows sts) :=
  ⟨by show ks (whs rows) = ks (rl rows); rw [ks_whs, ks_rl], by show ks (drs rows) = ks (rl rows); rw [ks_drs, ks_rl], fun k hk => by
    have hk : k ∈ ks (lidsOf rows) := hk
    show k ∈ ks (rl rows)
    rw [ks_lids] at hk
    rw [ks_rl]
    obtain ⟨r, h1, h2⟩ := List.mem_map.mp hk
    exact List.mem_map.mpr ⟨r, (List.mem_filter.mp h1).1, h2⟩, hl, by
    show (mg [] sts).length ≤ 6
    have := mg_len sts []
    simp at this; omega, by
    show (lidsOf rows).length ≤ 12
    unfold lidsOf
    rw [List.length_map]
    exact Nat.le_trans (List.length_filter_le _ _) hl, fun q hq => by
    obtain ⟨r, h1, rfl⟩ := List.mem_map.mp (show q ∈ whs rows from hq)
    exact (hr r h1).lw⟩
theorem atr_step {f : Str} {m : M D} {ρ : Rho} {stA stB : Store} {v : D} {i c : Nat} {fs fs' : List (Str × D)} (h : m ρ stA = .ok v stB) (h0 : ∀ st', mVar 0 ρ st' = .ok (.ref i) st') (hi : stB[i]? = some (.ins c fs)) (hf : f ∈ fldF c) (hl : fs.length < 800) (he : putD f v fs = fs') : sAtr fldF f m (mVar 0) ρ stA = .nx ρ (stB.set i (.ins c fs')) := by
  rw [q_atr, h, O_toS_ok, q_atr1, h0, O_toS_ok, q_atr2, setAt_ref, hi, q_setO, if_pos ⟨hf, hl⟩, he]
theorem sinit_run {w : Nat} {p : Str × Bool} {pl : List (Str × Bool)} {rows : List Row} {ways : List Way} {sts : List (Str × Int)} {us : List D} (hu : Tr 9 (.lst us)) (lu : us.length ≤ 1000) (hw : st[w]? = some (wob (.lst (Ps (p :: pl))) (.lst (Rs rows)) (.lst (Ws ways)) (.lst (sts.map Sd)) (.lst us))) (hp : pl.length ≤ 20) (hr : ∀ r ∈ rows, r.ok) (hl : rows.length ≤ 12) (hlw : ways.length ≤ 13) (hs : sts.length ≤ 6) (nd : (rows.map (·.name)).Nodup) :
    cF (n + 2) i_M_State___init__ [.ref st.length, .ref w] (st ++ [.ins cS []]) = .ok .non (st ++ [.ins cS (sfs (G0 w rows (p :: pl) ways) ⟨st.length, st.length + 1, st.length + 2, st.length + 3, st.length + 4, st.length + 5⟩ p.1 0), .dct (kv Row.d (rl rows)), .dct (kv dW (whs rows)), .dct (kv D.bl (lidsOf rows)), .dct (kv D.bl (drs rows)), .dct (kv D.int (mg [] sts))]) := by
  have e0 : startD N_M_State___init__.length [.ref st.length, .ref w] = [some (.ref st.length), some (.ref w), none, none, none] := rfl
  have lR : (Rs rows).length = rows.length := by simp [Rs]
  have lW : (Ws ways).length = ways.length := by simp [Ws]
  have lP : (Ps (p :: pl)).length = pl.length + 1 := by simp [Ps]
  have lS : (sts.map Sd).length = sts.length := List.length_map _
  have tP : Tr 4 (.lst (Ps (p :: pl))) := .lst (fun x hx => by
    obtain ⟨q, _, rfl⟩ := List.mem_map.mp hx
    exact .tup (fun y hy => by
      simp only [List.mem_cons, List.not_mem_nil, or_false] at hy
      rcases hy with rfl | rfl
      · exact .str _ _
      · exact .bl _ _) (by simp)) (by rw [lP]; omega)
  have tR : Tr 4 (.lst (Rs rows)) := .lst (fun x hx => by
    obtain ⟨q, hq, rfl⟩ := List.mem_map.mp hx
    exact Row.tr (hr q hq)) (by rw [lR]; omega)
  have tW : Tr 4 (.lst (Ws ways)) := .lst (fun x hx => by
    obtain ⟨q, _, rfl⟩ := List.mem_map.mp hx
    exact q.tr.mono) (by rw [lW]; omega)
  have tS : Tr 4 (.lst (sts.map Sd)) := .lst (fun x hx => by
    obtain ⟨q, _, rfl⟩ := List.mem_map.mp hx
    exact .tup (fun y hy => by
      simp only [List.mem_cons, List.not_mem_nil, or_false] at hy
      rcases hy with rfl | rfl
      · exact .str _ _
      · exact .int _ _) (by simp)) (by rw [lS]; omega)
  have hlt := lt_of_get hw
  have e1 := fun o => told_run (n := n) (st := st ++ [o]) (by rw [List.getElem?_append_left hlt]; exact hw) tP tR tW tS hu (by omega) (by omega) (by omega) (by omega) lu
  let T : D := .tup [.lst (Ps (p :: pl)), .lst (Rs rows), .lst (Ws ways), .lst (sts.map Sd), .lst us, .lst [], .lst [], .lst []]
  have t0 : ∀ st', dIx T (.int 0) st' = .ok (.lst (Ps (p :: pl))) st' := fun _ => rfl
  have t1 : ∀ st', dIx T (.int 1) st' = .ok (.lst (Rs rows)) st' := fun _ => rfl
  have t2 : ∀ st', dIx T (.int 2) st' = .ok (.lst (Ws ways)) st' := fun _ => rfl
  have t3 : ∀ st', dIx T (.int 3) st' = .ok (.lst (sts.map Sd)) st' := fun _ => rfl
  have t4 : ∀ st', dIx (.lst (Ps (p :: pl))) (.int 0) st' = .ok (Pd p) st' := fun st' => by rw [ix_lst (by decide) (by rw [lP]; omega)]; rfl
  have t5 : ∀ st', dIx (Pd p) (.int 0) st' = .ok (.str p.1) st' := fun _ => rfl
  have e1' : ∀ o, cF (n + 1) i_M_World_told [.ref w] (st ++ [o]) = .ok T (st ++ [o]) := e1
  clear_value T
  have lc : ∀ (e : M D) (f : Row → D) (x4 : Option D) (st' : Store), (∀ r ∈ rows, e [some (.ref st.length), some (.ref w), some T, some r.d, x4] st' = .ok (f r) st') → mLc false (mItems (mBin dIx (mVar 2) (mC (.int 1)))) (.one 3) [3] mYes e [some (.ref st.length), some (.ref w), some T, none, x4] st' = .ok (.lst (rows.map f)) st' := fun e f x4 st' h => by
    refine mLc_all (enc := Row.d) (g := []) (xs := rows) ?_ (guard_nil _) (by unfold sizeLine; omega) fun r hr' => ⟨_, rfl, h r hr'⟩
    simp_arith [t1]
    rfl
  have ndR : mg [] (rl rows) = rl rows := mg_nodup (rl rows) [] (by rw [List.nil_append, ks_rl]; exact nd)
  have ndW : mg [] (whs rows) = whs rows := mg_nodup (whs rows) [] (by rw [List.nil_append, ks_whs]; exact nd)
  have ndD : mg [] (drs rows) = drs rows := mg_nodup (drs rows) [] (by rw [List.nil_append, ks_drs]; exact nd)
  have ndL : mg [] (lidsOf rows) = lidsOf rows := mg_nodup (lidsOf rows) [] (by rw [List.nil_append, ks_lids]; exact sub_nodup _ _ nd)
  have lL : (lidsOf rows).length ≤ 12 := by
    unfold lidsOf
    rw [List.length_map]
    exact Nat.le_trans (List.length_filter_le _ _) hl
  have lM : (mg [] sts).length ≤ 6 := by have := mg_len sts []; simp at this; omega
  have lQ : (mg [] (p :: pl)).length ≤ 21 := by have := mg_len (p :: pl) []; simp at this; omega
  have c1 : ∀ st', mApp (dDict true) (mCons (mLc false (mItems (mBin dIx (mVar 2) (mC (.int 1)))) (.one 3) [3] mYes (mTup (mCons (mBin dIx (mVar 3) (mC (.int 0))) (mCons (mVar 3) mNil)))) mNil) [some (.ref st.length), some (.ref w), some T, none, none] st' = .ok (.ref st'.length) (st' ++ [.dct (kv Row.d (rl rows))]) := fun st' => by
    have q := lc (mTup (mCons (mBin dIx (mVar 3) (mC (.int 0))) (mCons (mVar 3) mNil))) (fun r => .tup [.str r.name, r.d]) none st' (fun r _ => rfl)
    have z := made_kv (st := st') Row.d (rl rows) (by rw [rl_len]; omega) (by rw [ndR, rl_len]; omega)
    rw [ndR, show (rl rows).map (fun p => D.tup [.str p.1, Row.d p.2]) = rows.map fun r => .tup [.str r.name, r.d] by unfold rl; rw [List.map_map]; rfl] at z
    simp_arith [q, z]
  have c2 : ∀ st', mApp (dDict true) (mCons (mLc false (mItems (mBin dIx (mVar 2) (mC (.int 1)))) (.one 3) [3] mYes (mTup (mCons (mBin dIx (mVar 3) (mC (.int 0))) (mCons (mBin dIx (mVar 3) (mC (.int 3))) mNil)))) mNil) [some (.ref st.length), some (.ref w), some T, none, none] st' = .ok (.ref st'.length) (st' ++ [.dct (kv dW (whs rows))]) := fun st' => by
    have q := lc (mTup (mCons (mBin dIx (mVar 3) (mC (.int 0))) (mCons (mBin dIx (mVar 3) (mC (.int 3))) mNil))) (fun r => .tup [.str r.name, dW r.wh]) none st' (fun r _ => rfl)
    have z := made_kv (st := st') dW (whs rows) (by unfold whs; rw [List.length_map]; omega) (by rw [ndW]; unfold whs; rw [List.length_map]; omega)
    rw [ndW, show (whs rows).map (fun p => D.tup [.str p.1, dW p.2]) = rows.map fun r => .tup [.str r.name, dW r.wh] by unfold whs; rw [List.map_map]; rfl] at z
    simp_arith [q, z]
  have c3 : ∀ st', mLc false (mItems (mBin dIx (mVar 2) (mC (.int 1)))) (.one 3) [3] (mOrT (mTest (mBin (dIn false) (mC (.str "box")) (mBin dIx (mVar 3) (mC (.int 4))))) (mTest (mBin (dIn false) (mC (.str "door")) (mBin dIx (mVar 3) (mC (.int 4)))))) (mVar 3) [some (.ref st.length), some (.ref w), some T, none, none] st' = .ok (.lst (Rs (rows.filter fun r => decide (("box" : Str) ∈ r.trs) || decide (("door" : Str) ∈ r.trs)))) st' := fun st' => by
    refine mLc_map (enc := Row.d) (g := []) (xs := rows) (p := fun r => decide (("box" : Str) ∈ r.trs) || decide (("door" : Str) ∈ r.trs)) (f := Row.d) ?_ (guard_nil _) (by unfold sizeLine; omega) fun r hr' => ⟨_, rfl, ?_, fun _ => rfl⟩
    · simp_arith [t1]
      rfl
    · have q1 : dIx r.d (.int 4) st' = .ok (.tup (Ss r.trs)) st' := rfl
      by_cases b1 : ("box" : Str) ∈ r.trs
      · simp_arith [q1, b1]
      · simp_arith [q1, b1]
  have c4 : ∀ st', mApp (dDict true) (mCons (mLc false (mItems (mVar 4)) (.one 3) [3] mYes (mTup (mCons (mBin dIx (mVar 3) (mC (.int 0))) (mCons (mBin (dIn true) (mC (.str "shut")) (mBin dIx (mVar 3) (mC (.int 4)))) mNil)))) mNil) [some (.ref st.length), some (.ref w), some T, none, some (.lst (Rs (rows.filter fun r => decide (("box" : Str) ∈ r.trs) || decide (("door" : Str) ∈ r.trs))))] st' = .ok (.ref st'.length) (st' ++ [.dct (kv D.bl (lidsOf rows))]) := fun st' => by
    have z := made_kv (st := st') D.bl (lidsOf rows) (by omega) (by rw [ndL]; omega)
    rw [ndL] at z
    unfold lidsOf at z lL ⊢
    rw [List.length_map] at lL
    generalize (rows.filter fun r => decide (("box" : Str) ∈ r.trs) || decide (("door" : Str) ∈ r.trs)) = rs at *
    have q : mLc false (mItems (mVar 4)) (.one 3) [3] mYes (mTup (mCons (mBin dIx (mVar 3) (mC (.int 0))) (mCons (mBin (dIn true) (mC (.str "shut")) (mBin dIx (mVar 3) (mC (.int 4)))) mNil))) [some (.ref st.length), some (.ref w), some T, none, some (.lst (Rs rs))] st' = .ok (.lst (rs.map fun r => .tup [.str r.name, .bl (!decide (("shut" : Str) ∈ r.trs))])) st' := by
      refine mLc_all (enc := Row.d) (g := []) (xs := rs) rfl (guard_nil _) (by unfold sizeLine; omega) fun r hr' => ⟨_, rfl, ?_⟩
      have q1 : dIx r.d (.int 4) st' = .ok (.tup (Ss r.trs)) st' := rfl
      have q0 : dIx r.d (.int 0) st' = .ok (.str r.name) st' := rfl
      simp_arith [q1, q0]
    rw [List.map_map, show ((fun p : Str × Bool => D.tup [.str p.1, .bl p.2]) ∘ fun r : Row => (r.name, !decide (("shut" : Str) ∈ r.trs))) = fun r => .tup [.str r.name, .bl (!decide (("shut" : Str) ∈ r.trs))] from rfl] at z
    simp_arith [q, z]
  have c5 : ∀ (x4 : Option D) st', mApp (dDict true) (mCons (mLc false (mItems (mBin dIx (mVar 2) (mC (.int 1)))) (.one 3) [3] mYes (mTup (mCons (mBin dIx (mVar 3) (mC (.int 0))) (mCons (mC (.bl false)) mNil)))) mNil) [some (.ref st.length), some (.ref w), some T, none, x4] st' = .ok (.ref st'.length) (st' ++ [.dct (kv D.bl (drs rows))]) := fun x4 st' => by
    have q := lc (mTup (mCons (mBin dIx (mVar 3) (mC (.int 0))) (mCons (mC (.bl false)) mNil))) (fun r => .tup [.str r.name, .bl false]) x4 st' (fun r _ => rfl)
    have z := made_kv (st := st') D.bl (drs rows) (by unfold drs; rw [List.length_map]; omega) (by rw [ndD]; unfold drs; rw [List.length_map]; omega)
    rw [ndD, show (drs rows).map (fun p => D.tup [.str p.1, D.bl p.2]) = rows.map fun r => .tup [.str r.name, .bl false] by unfold drs; rw [List.map_map]; rfl] at z
    simp_arith [q, z]
  have c6 : ∀ (x4 : Option D) st', mApp (dDict true) (mCons (mLc false (mItems (mBin dIx (mVar 2) (mC (.int 3)))) (.one 3) [3] mYes (mTup (mCons (mBin dIx (mVar 3) (mC (.int 0))) (mCons (mBin dIx (mVar 3) (mC (.int 1))) mNil)))) mNil) [some (.ref st.length), some (.ref w), some T, none, x4] st' = .ok (.ref st'.length) (st' ++ [.dct (kv D.int (mg [] sts))]) := fun x4 st' => by
    have q : mLc false (mItems (mBin dIx (mVar 2) (mC (.int 3)))) (.one 3) [3] mYes (mTup (mCons (mBin dIx (mVar 3) (mC (.int 0))) (mCons (mBin dIx (mVar 3) (mC (.int 1))) mNil))) [some (.ref st.length), some (.ref w), some T, none, x4] st' = .ok (.lst (sts.map fun p => .tup [.str p.1, .int p.2])) st' := by
      refine mLc_all (enc := Sd) (g := []) (xs := sts) ?_ (guard_nil _) (by unfold sizeLine; omega) fun r hr' => ⟨_, rfl, rfl⟩
      simp_arith [t3]
    have z := made_kv (st := st') D.int sts (by omega) (by omega)
    simp_arith [q, z]
  have c7 : ∀ st', mApp (dDict false) (mCons (mBin dIx (mVar 2) (mC (.int 0))) mNil) [some (.ref st.length), some (.ref w), some T, none, none] st' = .ok (.dct (kv D.bl (mg [] (p :: pl)))) st' := fun st' => by
    have z := madeF_kv (st := st') D.bl (p :: pl) (by simp; omega) (by omega)
    have z : dDict false [.lst (Ps (p :: pl))] st' = .ok (.dct (kv D.bl (mg [] (p :: pl)))) st' := z
    simp_arith [t0, z]
  have d4 : ∀ st', mBin dIx (mVar 2) (mC (.int 2)) [some (.ref st.length), some (.ref w), some T, none, none] st' = .ok (.lst (Ws ways)) st' := fun st' => by simp_arith [t2]
  have d5 : ∀ st', mBin dIx (mBin dIx (mBin dIx (mVar 2) (mC (.int 0))) (mC (.int 0))) (mC (.int 0)) [some (.ref st.length), some (.ref w), some T, none, none] st' = .ok (.str p.1) st' := fun st' => by simp_arith [t0, t4, t5]
  refine cn rfl rfl B_M_State___init__ (ρ := [some (.ref st.length), some (.ref w), some T, none, some (.lst (Rs (rows.filter fun r => decide (("box" : Str) ∈ r.trs) || decide (("door" : Str) ∈ r.trs))))]) ?_
  rw [e0]
  unfold P_M_State___init__
  have mw := List.getElem?_append_left (l₂ := [Ob.ins cS []]) hlt
  rw [hw] at mw
  refine run_seq (ρ1 := [some (.ref st.length), some (.ref w), some T, none, none]) (st1 := st ++ [.ins cS []]) ?_ ?_
  · have z := e1' (.ins cS [])
    simp_arith [mw, insO_w, q_mth, mt0, lw9, z]
  have v0 : ∀ (r : Rho) st', mVar 0 (some (.ref st.length) :: r) st' = .ok (.ref st.length) st' := fun _ _ => rfl
  have g0 : ∀ (o : Ob) (l : List Ob), (st ++ o :: l)[st.length]? = some o := fun o l => by rw [get_at]; rfl
  have sx : ∀ (o o' : Ob) (l : List Ob), (st ++ o :: l).set st.length o' = st ++ o' :: l := fun o o' l => by rw [set_at]; rfl
  have ln : ∀ l : List Ob, (st ++ l).length = st.length + l.length := fun l => List.length_append
  have ap : ∀ (o : Ob) (l : List Ob) (o' : Ob), (st ++ o :: l) ++ [o'] = st ++ o :: (l ++ [o']) := fun o l o' => by simp
  refine run_seq (atr_step (v := .ref w) rfl (v0 _) (g0 _ _) fs1 (by show 0 < 800; decide) rfl) ?_
  rw [sx]
  refine run_seq (atr_step (c1 _) (v0 _) (by rw [ap]; exact g0 _ _) fs2 (by show 1 < 800; decide) rfl) ?_
  rw [ap, sx, ln]
  refine run_seq (atr_step (c7 _) (v0 _) (g0 _ _) fs3 (by show 2 < 800; decide) rfl) ?_
  rw [sx]
  refine run_seq (atr_step (d4 _) (v0 _) (g0 _ _) fs4 (by show 3 < 800; decide) rfl) ?_
  rw [sx]
  refine run_seq (atr_step (d5 _) (v0 _) (g0 _ _) fs5 (by show 4 < 800; decide) rfl) ?_
  rw [sx]
  refine run_seq (atr_step (v := .int 0) rfl (v0 _) (g0 _ _) fs6 (by show 5 < 800; decide) rfl) ?_
  rw [sx]
  refine run_seq (atr_step (c2 _) (v0 _) (by rw [ap]; exact g0 _ _) fs7 (by show 6 < 800; decide) rfl) ?_
  rw [ap, sx, ln]
  refine run_seq (run_asg (c3 _)) ?_
  refine run_seq (atr_step (c4 _) (v0 _) (by rw [ap]; exact g0 _ _) fs8 (by show 7 < 800; decide) rfl) ?_
  rw [ap, sx, ln]
  refine run_seq (atr_step (c5 _ _) (v0 _) (by rw [ap]; exact g0 _ _) fs9 (by show 8 < 800; decide) rfl) ?_
  rw [ap, sx, ln]
  refine (atr_step (c6 _ _) (v0 _) (by rw [ap]; exact g0 _ _) fs10 (by show 9 < 800; decide) rfl).trans ?_
  rw [ap, sx, ln]
  rfl
end K20
namespace K20
open PySem L2 Mi
local macro_rules
  | `(tactic| simp_arith [$ts,*]) => `(tactic| simp (disch := first | assumption | omega | (simp only [List.length_cons, List.length_nil, List.length_map, List.length_append]; done) | (simp only [List.length_cons, List.length_nil, List.length_map, List.length_append]; omega)) only [↓reduceIte, r_seq, seq_nx, seq_rt, seq_no, seq_ex, seq_bk, seq_ct, OS_turn_nx, OS_turn_ct, OS_turn_rt, OS_turn_bk, turn_ex, O_bind_ok, O_bind_ex, O_bind_no, O_toS_ok, O_toS_ex, O_toS_no, O_strict_ok, r_var0, r_varS, r_C, r_nil, r_un, r_app, r_lst, r_tup, r_yes, r_nopart, r_snil, r_break, r_cont, r_retN, q_bin, q_bin2, q_cons, q_cons1, q_cons2, q_meth, q_meth1, q_tru, q_tru1, q_truO, q_test, q_test1, q_notT, q_notT1, q_andT, q_andTt, q_andTf, q_orT, q_orTt, q_orTf, q_ifE, q_ifT, q_iteT, q_iteF, q_andV, q_andV1, q_andOt, q_andOf, q_orV, q_orV1, q_orOt, q_orOf, q_notV, q_notV1, q_notO, q_chain, q_chain1, q_chain2, q_chain3t, q_chain3f, q_part, q_part1, q_sl, q_sl1, q_sl2, q_sl3, q_items, q_items1, q_srcO, q_enum, q_enum1, q_enumO, q_pnil, q_pair, q_pair1, q_pair2, q_pair3, q_disp, q_zip, q_zip1, q_zip2, zipS_tt, zipS_ll, q_range1, q_range11, q_range2, q_range21, q_range3, q_isi, q_isi1, q_isiO, q_isc, q_isc1, q_iscO, q_call, q_call1, q_attr, q_attr1, q_attrO, q_attrO2, q_mth, q_mth1, q_mthO, q_mth2, q_mth3, q_make, q_make1, q_asg, q_asg1, q_asgO, q_expr, q_expr1, q_ret, q_ret1, q_if, q_ift, q_iff, q_whilet, q_whilef, q_atr, q_atr1, q_atr2, q_aa1, q_aa2, q_aa3, q_aa4, q_step, q_step1, q_step2, insAt_ref, q_insO, setAt_ref, q_setO, isNonO_non, putD, bindT, setD, wipeD, List.map_cons, List.map_nil, List.replicate, List.set_cons_zero, List.set_cons_succ, List.cons_append, List.nil_append, List.append_nil, List.length_cons, List.length_nil, Nat.reduceAdd, Nat.reduceSub, Nat.reduceEqDiff, Nat.reduceLT, Int.reduceLT, Int.reduceLE, Int.reduceEq, Nat.zero_add, Nat.add_zero, e_ints, e_bls, e_strs, sgnT, sgnF, l_ints, a_ints, s_ints, tru_bl, len_str, ty_str, ty_int, ty_bl, ty_non, ty_lst, ty_tup, ty_frz, ty_dct, tyOf_ref, lt_ii, gt_ii, ge_ii, neg_i, is_non, isNon_non, isNon_str, isNon_lst, isNon_tup, isNon_ref, isNon_int, lstOf_ref, lstOf_lst, lstOf_frz, seqOf_tup, seqOf_frz, seqOf_lst, seqOf_ref, listOf_frz, listOf_lst, listOf_ref, listG_frz, listG_lst, listG_ref, items_lst, items_frz, items_tup, items_str, items_ref, rdOf_ref, rdOf_lst, rdOf_tup, rdOf_frz, rdOf_str, rdOf_dct, dctOf_ref, dctOf_lst, dctOf_tup, dctOf_frz, dctOf_str, dctOf_dct, len_lst, len_tup, len_frz, len_ref, list_any, tuple_tup, tuple_lst, tuple_frz, tuple_ref, int_int, int_bl, mkL_t, mkL_f, mkT_ok, append_ref, clear_ref, if_sz, tyD_ref, tyD_str, tyD_lst, add_lr, add_rl, add_rr, add_ll, add_tt, add_ss, mod_ii, div_ii, mul_ii, List.lookup_cons, beq_self_eq_true, Bool.and_true, Bool.true_and, Bool.or_true, Bool.true_or, Bool.false_or, Bool.or_false, Bool.false_and, Bool.and_false, Bool.not_true, Bool.not_false, Bool.false_eq_true, Bool.true_eq_false, Option.isSome_some, Option.isSome_none, Option.map_some, Option.map_none, decide_true, decide_false, if_true, if_false, get_at, get_at_add, set_at, set_at_add, List.append_assoc, List.getElem?_cons_zero, List.getElem?_cons_succ, in_tup, in_lst, and_true, true_and, and_self, $ts,*])
variable {n : Nat} {st : Store}
/-! ### a thing of the tale -/
def KD : List (List Str) := [[], ["box"], ["box", "shut"], ["box", "clear", "shut"], ["stand"], ["fixed", "stand"], ["lit"], ["wear"], ["fixed"], ["door"], ["door", "shut"], []]
def NM : List Str := ["lamp", "crate", "shelf", "hat", "stone", "gate", "chest", "cup", "book", "coin"]
theorem kd_len : ∀ l ∈ KD, l.length ≤ 3 := by decide +kernel
def KDd : List D := KD.map fun l => .tup (Ss l)
theorem kd_pick {i : Int} (h : 0 ≤ i ∧ i < 12) : ∃ l ∈ KD, ∀ st : Store, dIx (.lst KDd) (.int i) st = .ok (.tup (Ss l)) st := by
  have hl : KD.length = 12 := rfl
  refine ⟨KD.getD i.toNat [], ?_, fun st => ?_⟩
  · rw [List.getD_eq_getElem?_getD, List.getElem?_eq_getElem (by omega)]
    exact List.getElem_mem _
  · rw [ix_lst h.1 (by show i < ((KD.map _).length : Int); rw [List.length_map]; omega)]
    unfold KDd
    rw [List.getD_eq_getElem?_getD, List.getElem?_map, List.getElem?_eq_getElem (by omega), List.getD_eq_getElem?_getD, List.getElem?_eq_getElem (by omega)]
    rfl
theorem nm_pick {k : Nat} (h : k < 10) : dIx (.lst (Ss NM)) (.int (k : Int)) st = .ok (.str (NM.getD k "")) st := by
  have hl : NM.length = 10 := rfl
  rw [ix_lst (by omega) (by rw [List.length_map]; omega), getD_strs (by omega)]
  rfl
def nms (p : Row → Bool) (rows : List Row) : List Str := (rows.filter p).map (·.name)
theorem ss_nms (p : Row → Bool) (rows : List Row) : ((rows.filter p).map fun r => D.str r.name) = Ss (nms p rows) := by
  unfold nms
  show _ = List.map D.str (List.map _ _)
  rw [List.map_map]; rfl
theorem nms_len (p : Row → Bool) (rows : List Row) : (nms p rows).length ≤ rows.length := by
  unfold nms
  rw [List.length_map]
  exact List.length_filter_le _ _
theorem nms_mem {p : Row → Bool} {rows : List Row} {x : Str} (h : x ∈ nms p rows) : ∃ r ∈ rows, p r = true ∧ r.name = x := by
  obtain ⟨r, hr, e⟩ := List.mem_map.mp h
  obtain ⟨h1, h2⟩ := List.mem_filter.mp hr
  exact ⟨r, h1, h2, e⟩
def isT (t : Str) (r : Row) : Bool := decide (t ∈ r.trs)
theorem ss_ne {l : List Str} (hl : l.length ≤ 1000) (ng : Bool) : dEq ng (.lst (Ss l)) (.lst []) st = .ok (.bl (sgn ng l.isEmpty)) st := by
  rw [tr_ne (k := 2) (.lst (Tr.ss 0 _) (by rw [List.length_map]; omega)) (by decide)]
  cases l <;> rfl
theorem ss_cnt (l : List Str) : dLen [.lst (Ss l)] st = .ok (.int (l.length : Int)) st := by rw [len_lst, List.length_map]
inductive WhOk (rooms : List Str) (rows : List Row) : List Str → Prop
  | place {p : Str} (h : p ∈ rooms) : WhOk rooms rows ["at", p]
  | mine : WhOk rooms rows ["with"]
  | away : WhOk rooms rows ["nowhere"]
  | box {r : Row} (h : r ∈ rows) (hb : ("box" : Str) ∈ r.trs) : WhOk rooms rows ["in", r.name]
  | stand {r : Row} (h : r ∈ rows) (hb : ("stand" : Str) ∈ r.trs) : WhOk rooms rows ["on", r.name]
/-- a list of rows, live or not -/
structure RL (st : Store) (d : D) (g : List (Nat × Ob)) (rows : List Row) : Prop where
  it : ∀ (i : Nat) (ρ : Rho), mVar i ρ st = .ok d st → mItems (mVar i) ρ st = .ok ⟨Rs rows, g⟩ st
  gd : guard g st = true
theorem rl_ref {a : Nat} {rows : List Row} (h : st[a]? = some (.lst (Rs rows))) : RL st (.ref a) [(a, .lst (Rs rows))] rows := ⟨fun i ρ e => by
  simp_arith [e, h], guard_one.mpr h⟩
theorem rl_lst {rows : List Row} : RL st (.lst (Rs rows)) [] rows := ⟨fun i ρ e => by
  simp_arith [e], guard_nil _⟩
theorem lc_rows {d : D} {g : List (Nat × Ob)} {rows : List Row} (R : RL st d g rows) (hl : rows.length ≤ 1000) {i j : Nat} {c : M Bool} {e : M D} {ρ : Rho} {p : Row → Bool} {f : Row → D} (h : mVar i ρ st = .ok d st) (h1 : ∀ r ∈ rows, c ((wipeD ρ [j]).set j (some r.d)) st = .ok (p r) st) (h2 : ∀ r ∈ rows, p r = true → e ((wipeD ρ [j]).set j (some r.d)) st = .ok (f r) st) : mLc false (mItems (mVar i)) (.one j) [j] c e ρ st = .ok (.lst ((rows.filter p).map f)) st :=
  mLc_map (enc := Row.d) (g := g) (xs := rows) (p := p) (f := f) (R.it _ _ h) R.gd (by unfold sizeLine; omega) fun r hr => ⟨_, rfl, h1 r hr, fun hp => h2 r hr hp⟩
theorem r_trs (r : Row) : dIx r.d (.int 4) st = .ok (.tup (Ss r.trs)) st := rfl
theorem r_nm (r : Row) : dIx r.d (.int 0) st = .ok (.str r.name) st := rfl
theorem r_wh (r : Row) : dIx r.d (.int 3) st = .ok (dW r.wh) st := rfl
theorem thing_run {m : Int} {k : Nat} {rooms : List Str} {rows : List Row} {a : Nat} (hk : k < 10) (ha : st[a]? = some (.lst (Rs rows))) (hl : rows.length ≤ 12) (hp : 0 < rooms.length) :
    ∃ wh trs, WhOk rooms rows wh ∧ trs ∈ KD ∧ (("door" : Str) ∈ trs → wh = [("nowhere" : Str)]) ∧ cF (n + 1) i__law_thing [.int (k : Int), .int m, .lst (Ss rooms), .ref a] st = .ok (Row.d ⟨NM.getD k "", NM.getD k "", [], wh, trs⟩) st := by
  have e0 : startD N__law_thing.length [.int (k : Int), .int m, .lst (Ss rooms), .ref a] = [some (.int (k : Int)), some (.int m), some (.lst (Ss rooms)), some (.ref a), none, none, none, none, none, none, none, none] := rfl
  obtain ⟨trs, ht, e1⟩ := kd_pick (i := m % 12) ⟨Int.emod_nonneg _ (by decide), Int.emod_lt_of_pos _ (by decide)⟩
  have lt := kd_len trs ht
  have e2 := nm_pick (st := st) hk
  have d1 : [D.tup [], .tup [.str "box"], .tup [.str "box", .str "shut"], .tup [.str "box", .str "clear", .str "shut"], .tup [.str "stand"], .tup [.str "fixed", .str "stand"], .tup [.str "lit"], .tup [.str "wear"], .tup [.str "fixed"], .tup [.str "door"], .tup [.str "door", .str "shut"], .tup []] = KDd := rfl
  have d1l : KDd.length ≤ 16777216 := by decide
  have d2 : [D.str "lamp", .str "crate", .str "shelf", .str "hat", .str "stone", .str "gate", .str "chest", .str "cup", .str "book", .str "coin"] = Ss NM := rfl
  have d2l : (Ss NM).length ≤ 16777216 := by decide
  have R := rl_ref ha
  have e3 : ∀ (x4 x5 x6 x7 x9 x10 x11 : Option D), mLc false (mItems (mVar 3)) (.one 8) [8] (mTest (mBin (dIn false) (mC (.str "box")) (mBin dIx (mVar 8) (mC (.int 4))))) (mBin dIx (mVar 8) (mC (.int 0))) [some (.int (k : Int)), some (.int m), some (.lst (Ss rooms)), some (.ref a), x4, x5, x6, x7, none, x9, x10, x11] st = .ok (.lst (Ss (nms (isT "box") rows))) st := fun x4 x5 x6 x7 x9 x10 x11 => by
    rw [← ss_nms]
    refine lc_rows R (by omega) rfl (fun r _ => ?_) (fun r _ _ => rfl)
    have q := r_trs (st := st) r
    simp_arith [q]
    rfl
  have e4 : ∀ (x4 x5 x6 x7 x9 x10 x11 : Option D), mLc false (mItems (mVar 3)) (.one 8) [8] (mTest (mBin (dIn false) (mC (.str "stand")) (mBin dIx (mVar 8) (mC (.int 4))))) (mBin dIx (mVar 8) (mC (.int 0))) [some (.int (k : Int)), some (.int m), some (.lst (Ss rooms)), some (.ref a), x4, x5, x6, x7, none, x9, x10, x11] st = .ok (.lst (Ss (nms (isT "stand") rows))) st := fun x4 x5 x6 x7 x9 x10 x11 => by
    rw [← ss_nms]
    refine lc_rows R (by omega) rfl (fun r _ => ?_) (fun r _ _ => rfl)
    have q := r_trs (st := st) r
    simp_arith [q]
    rfl
  have mb : ∀ x ∈ nms (isT "box") rows, WhOk rooms rows ["in", x] := fun x hx => by
    obtain ⟨r, h1, h2, rfl⟩ := nms_mem hx
    exact .box h1 (of_decide_eq_true h2)
  have ms : ∀ x ∈ nms (isT "stand") rows, WhOk rooms rows ["on", x] := fun x hx => by
    obtain ⟨r, h1, h2, rfl⟩ := nms_mem hx
    exact .stand h1 (of_decide_eq_true h2)
  have lb := nms_len (isT "box") rows
  have ls := nms_len (isT "stand") rows
  generalize nms (isT "box") rows = bs at *
  generalize nms (isT "stand") rows = ss at *
  have e5 := ss_ne (st := st) (l := bs) (by omega) true
  have e6 := ss_ne (st := st) (l := ss) (by omega) true
  have e7 := ss_cnt (st := st) bs
  have e8 := ss_cnt (st := st) ss
  have e9 := ss_cnt (st := st) rooms
  have e10 := pick_run (st := st) (ws := rooms) (m := m / 12 / 7) rfl (by omega)
  have m10 := pick_mem (ws := rooms) (m := m / 12 / 7) rfl (by omega)
  have e11 := in_tup (st := st) false "door" trs
  have fz3 : ∀ wh : List Str, wh.length ≤ 2 → fz 64 st.length st (Row.d ⟨NM.getD k "", NM.getD k "", [], wh, trs⟩) = some (Row.d ⟨NM.getD k "", NM.getD k "", [], wh, trs⟩) := fun wh hw => (Row.tr ⟨by simp, hw, by show trs.length ≤ 10; omega⟩).fz (by decide)
  by_cases c1 : ("door" : Str) ∈ trs
  · refine ⟨["nowhere"], trs, .away, ht, fun _ => rfl, cp rfl rfl B__law_thing ?_ (fz3 _ (by simp))⟩
    unfold P__law_thing
    simp_arith [e0, d1, d1l, d2, d2l, e1, e2, e3, e4, e9, e10, e11, c1]
    rfl
  · by_cases c2 : m / 12 % 7 = 0
    · refine ⟨["nowhere"], trs, .away, ht, fun _ => rfl, cp rfl rfl B__law_thing ?_ (fz3 _ (by simp))⟩
      unfold P__law_thing
      simp_arith [e0, d1, d1l, d2, d2l, e1, e2, e3, e4, e9, e10, e11, c1, c2]
      rfl
    · by_cases c3 : m / 12 % 7 = 1
      · refine ⟨["with"], trs, .mine, ht, fun z => absurd z c1, cp rfl rfl B__law_thing ?_ (fz3 _ (by simp))⟩
        have c3' : (1 : Int) = 0 ↔ False := by decide
        unfold P__law_thing
        simp_arith [e0, d1, d1l, d2, d2l, e1, e2, e3, e4, e9, e10, e11, c1, c3, c3']
        rfl
      · have at_ : (¬ (m / 12 % 7 < 4) ∨ bs = []) → (¬ (m / 12 % 7 = 4) ∨ ss = []) → P__law_thing (cF n) [some (.int (k : Int)), some (.int m), some (.lst (Ss rooms)), some (.ref a), none, none, none, none, none, none, none, none] st = .rt (Row.d ⟨NM.getD k "", NM.getD k "", [], ["at", rooms.getD (m / 12 / 7 % (rooms.length : Int)).toNat ""], trs⟩) st := fun z1 z2 => by
          by_cases c4 : m / 12 % 7 < 4
          · have z1 : bs = [] := z1.resolve_left fun z => z c4
            have c5 : ¬ (m / 12 % 7 = 4) := by omega
            have i1 : bs.isEmpty = true := by rw [z1]; rfl
            unfold P__law_thing
            simp_arith [d1, d1l, d2, d2l, e1, e2, e3, e4, e9, e10, e11, c1, c2, c3, c4, c5, e5, i1]
            rfl
          · by_cases c5 : m / 12 % 7 = 4
            · have z2 : ss = [] := z2.resolve_left fun z => z c5
              have i1 : ss.isEmpty = true := by rw [z2]; rfl
              have w1 : ¬ (4 : Int) = 0 := by decide
              have w2 : ¬ (4 : Int) = 1 := by decide
              have w3 : ¬ (4 : Int) < 4 := by decide
              unfold P__law_thing
              simp_arith [d1, d1l, d2, d2l, e1, e2, e3, e4, e9, e10, e11, c1, c5, w1, w2, w3, e6, i1]
              rfl
            · unfold P__law_thing
              simp_arith [d1, d1l, d2, d2l, e1, e2, e3, e4, e9, e10, e11, c1, c2, c3, c4, c5]
              rfl
        by_cases c4 : m / 12 % 7 < 4 ∧ bs ≠ []
        · have hb : 0 < bs.length := List.length_pos_iff.mpr c4.2
          have e12 := pick_run (st := st) (ws := bs) (m := m / 12 / 7) rfl (by omega)
          have m12 := pick_mem (ws := bs) (m := m / 12 / 7) rfl (by omega)
          have i0 : bs.isEmpty = false := by cases bs with
            | nil => exact absurd rfl c4.2
            | cons x r => rfl
          have c4' := c4.1
          refine ⟨["in", bs.getD (m / 12 / 7 % (bs.length : Int)).toNat ""], trs, mb _ m12, ht, fun z => absurd z c1, cp rfl rfl B__law_thing ?_ (fz3 _ (by simp))⟩
          unfold P__law_thing
          simp_arith [e0, d1, d1l, d2, d2l, e1, e2, e3, e4, e9, e10, e11, c1, c2, c3, c4', e5, i0, e7, e12]
          rfl
        · by_cases c5 : m / 12 % 7 = 4 ∧ ss ≠ []
          · have hb : 0 < ss.length := List.length_pos_iff.mpr c5.2
            have e12 := pick_run (st := st) (ws := ss) (m := m / 12 / 7) rfl (by omega)
            have m12 := pick_mem (ws := ss) (m := m / 12 / 7) rfl (by omega)
            have i0 : ss.isEmpty = false := by cases ss with
              | nil => exact absurd rfl c5.2
              | cons x r => rfl
            have c5' := c5.1
            have w1 : ¬ (4 : Int) = 0 := by decide
            have w2 : ¬ (4 : Int) = 1 := by decide
            have w3 : ¬ (4 : Int) < 4 := by decide
            refine ⟨["on", ss.getD (m / 12 / 7 % (ss.length : Int)).toNat ""], trs, ms _ m12, ht, fun z => absurd z c1, cp rfl rfl B__law_thing ?_ (fz3 _ (by simp))⟩
            unfold P__law_thing
            simp_arith [e0, d1, d1l, d2, d2l, e1, e2, e3, e4, e9, e10, e11, c1, c5', w1, w2, w3, e6, i0, e8, e12]
            rfl
          · refine ⟨["at", rooms.getD (m / 12 / 7 % (rooms.length : Int)).toNat ""], trs, .place m10, ht, fun z => absurd z c1, cp rfl rfl B__law_thing ?_ (fz3 _ (by simp))⟩
            rw [e0]
            refine at_ (by by_cases q : m / 12 % 7 < 4; exact .inr (Classical.not_not.mp fun z => c4 ⟨q, z⟩); exact .inl q) (by by_cases q : m / 12 % 7 = 4; exact .inr (Classical.not_not.mp fun z => c5 ⟨q, z⟩); exact .inl q)
end K20
namespace K20
open PySem L2 Mi
local macro_rules
  | `(tactic| simp_arith [$ts,*]) => `(tactic| simp (disch := first | assumption | omega | (simp only [List.length_cons, List.length_nil, List.length_map, List.length_append]; done) | (simp only [List.length_cons, List.length_nil, List.length_map, List.length_append]; omega)) only [↓reduceIte, r_seq, seq_nx, seq_rt, seq_no, seq_ex, seq_bk, seq_ct, OS_turn_nx, OS_turn_ct, OS_turn_rt, OS_turn_bk, turn_ex, O_bind_ok, O_bind_ex, O_bind_no, O_toS_ok, O_toS_ex, O_toS_no, O_strict_ok, r_var0, r_varS, r_C, r_nil, r_un, r_app, r_lst, r_tup, r_yes, r_nopart, r_snil, r_break, r_cont, r_retN, q_bin, q_bin2, q_cons, q_cons1, q_cons2, q_meth, q_meth1, q_tru, q_tru1, q_truO, q_test, q_test1, q_notT, q_notT1, q_andT, q_andTt, q_andTf, q_orT, q_orTt, q_orTf, q_ifE, q_ifT, q_iteT, q_iteF, q_andV, q_andV1, q_andOt, q_andOf, q_orV, q_orV1, q_orOt, q_orOf, q_notV, q_notV1, q_notO, q_chain, q_chain1, q_chain2, q_chain3t, q_chain3f, q_part, q_part1, q_sl, q_sl1, q_sl2, q_sl3, q_items, q_items1, q_srcO, q_enum, q_enum1, q_enumO, q_pnil, q_pair, q_pair1, q_pair2, q_pair3, q_disp, q_zip, q_zip1, q_zip2, zipS_tt, zipS_ll, q_range1, q_range11, q_range2, q_range21, q_range3, q_isi, q_isi1, q_isiO, q_isc, q_isc1, q_iscO, q_call, q_call1, q_attr, q_attr1, q_attrO, q_attrO2, q_mth, q_mth1, q_mthO, q_mth2, q_mth3, q_make, q_make1, q_asg, q_asg1, q_asgO, q_expr, q_expr1, q_ret, q_ret1, q_if, q_ift, q_iff, q_whilet, q_whilef, q_atr, q_atr1, q_atr2, q_aa1, q_aa2, q_aa3, q_aa4, q_step, q_step1, q_step2, insAt_ref, q_insO, setAt_ref, q_setO, isNonO_non, putD, bindT, setD, wipeD, List.map_cons, List.map_nil, List.replicate, List.set_cons_zero, List.set_cons_succ, List.cons_append, List.nil_append, List.append_nil, List.length_cons, List.length_nil, Nat.reduceAdd, Nat.reduceSub, Nat.reduceEqDiff, Nat.reduceLT, Int.reduceLT, Int.reduceLE, Int.reduceEq, Nat.zero_add, Nat.add_zero, e_ints, e_bls, e_strs, sgnT, sgnF, l_ints, a_ints, s_ints, tru_bl, len_str, ty_str, ty_int, ty_bl, ty_non, ty_lst, ty_tup, ty_frz, ty_dct, tyOf_ref, lt_ii, gt_ii, ge_ii, neg_i, is_non, isNon_non, isNon_str, isNon_lst, isNon_tup, isNon_ref, isNon_int, lstOf_ref, lstOf_lst, lstOf_frz, seqOf_tup, seqOf_frz, seqOf_lst, seqOf_ref, listOf_frz, listOf_lst, listOf_ref, listG_frz, listG_lst, listG_ref, items_lst, items_frz, items_tup, items_str, items_ref, rdOf_ref, rdOf_lst, rdOf_tup, rdOf_frz, rdOf_str, rdOf_dct, dctOf_ref, dctOf_lst, dctOf_tup, dctOf_frz, dctOf_str, dctOf_dct, len_lst, len_tup, len_frz, len_ref, list_any, tuple_tup, tuple_lst, tuple_frz, tuple_ref, int_int, int_bl, mkL_t, mkL_f, mkT_ok, append_ref, clear_ref, if_sz, tyD_ref, tyD_str, tyD_lst, add_lr, add_rl, add_rr, add_ll, add_tt, add_ss, mod_ii, div_ii, mul_ii, List.lookup_cons, beq_self_eq_true, Bool.and_true, Bool.true_and, Bool.or_true, Bool.true_or, Bool.false_or, Bool.or_false, Bool.false_and, Bool.and_false, Bool.not_true, Bool.not_false, Bool.false_eq_true, Bool.true_eq_false, Option.isSome_some, Option.isSome_none, Option.map_some, Option.map_none, decide_true, decide_false, if_true, if_false, get_at, get_at_add, set_at, set_at_add, List.append_assoc, List.getElem?_cons_zero, List.getElem?_cons_succ, in_tup, in_lst, and_true, true_and, and_self, $ts,*])
variable {n : Nat} {st : Store}
/-! ### conditions and effects of the tale -/
inductive Cnd (rows : List Row) : D → Prop
  | you (b : Bool) (p : Str) : Cnd rows (.tup [.bl b, .str "you", .str p, .str ""])
  | two (b : Bool) (s t o : Str) (hs : s = "at" ∨ s = "in" ∨ s = "on") (ht : t ∈ ks (rl rows)) : Cnd rows (.tup [.bl b, .str s, .str t, .str o])
  | one (b : Bool) (s t : Str) (hs : s = "with" ∨ s = "nowhere") (ht : t ∈ ks (rl rows)) : Cnd rows (.tup [.bl b, .str s, .str t, .str ""])
  | opn (b : Bool) (t : Str) (ht : t ∈ ks (rl rows)) : Cnd rows (.tup [.bl b, .str "open", .str t, .str ""])
  | wrn (b : Bool) (t : Str) (ht : t ∈ ks (rl rows)) : Cnd rows (.tup [.bl b, .str "worn", .str t, .str ""])
  | is (b : Bool) (s : Str) (v : Int) (hs : s = "fed" ∨ s = "mood") : Cnd rows (.tup [.bl b, .str "is", .str s, .int v])
theorem Cnd.four {rows : List Row} {d : D} (h : Cnd rows d) : ∃ (b : Bool) (s t : Str) (x : D), d = .tup [.bl b, .str s, .str t, x] ∧ Tr 1 x := by
  cases h with
  | you b p => exact ⟨_, _, _, _, rfl, .str _ _⟩
  | two b s t o => exact ⟨_, _, _, _, rfl, .str _ _⟩
  | one b s t => exact ⟨_, _, _, _, rfl, .str _ _⟩
  | opn b t => exact ⟨_, _, _, _, rfl, .str _ _⟩
  | wrn b t => exact ⟨_, _, _, _, rfl, .str _ _⟩
  | is b s v => exact ⟨_, _, _, _, rfl, .int _ _⟩
theorem Cnd.tr {rows : List Row} {d : D} (h : Cnd rows d) : Tr 2 d := by
  obtain ⟨b, s, t, x, rfl, hx⟩ := h.four
  refine .tup (fun y hy => ?_) (by simp)
  simp only [List.mem_cons, List.not_mem_nil, or_false] at hy
  rcases hy with rfl | rfl | rfl | rfl
  · exact .bl _ _
  · exact .str _ _
  · exact .str _ _
  · exact hx
theorem nms_ks {p : Row → Bool} {rows : List Row} {x : Str} (h : x ∈ nms p rows) : x ∈ ks (rl rows) := by
  obtain ⟨r, h1, _, rfl⟩ := nms_mem h
  rw [ks_rl]
  exact List.mem_map.mpr ⟨r, h1, rfl⟩
def SRT : List Str := ["is", "at", "in", "with", "nowhere", "open", "worn", "you", "is"]
def WNO : List Str := ["with", "nowhere", "open", "worn"]
def FM : List Str := ["fed", "mood"]
def lnk (r : Row) : Str := if ("box" : Str) ∈ r.trs then "in" else "on"
def npl (r : Row) : Bool := !decide (("door" : Str) ∈ r.trs)
def hld (r : Row) : Bool := decide (("box" : Str) ∈ r.trs) || decide (("stand" : Str) ∈ r.trs)
theorem fm_pick (m : Int) : ∃ s : Str, (s = "fed" ∨ s = "mood") ∧ ∀ st : Store, dIx (.lst (Ss FM)) (.int (m % 2)) st = .ok (.str s) st := by
  have hm : m % 2 = 0 ∨ m % 2 = 1 := by omega
  rcases hm with e | e <;> rw [e]
  · exact ⟨"fed", .inl rfl, fun _ => rfl⟩
  · exact ⟨"mood", .inr rfl, fun _ => rfl⟩
theorem cond_run {m : Int} {rooms : List Str} {rows : List Row} (hl : rows.length ≤ 12) (hp : 0 < rooms.length) :
    ∃ d, Cnd rows d ∧ cF (n + 1) i__law_tale_condition [.int m, .lst (Ss rooms), .lst (Rs rows)] st = .ok d st := by
  have e0 : startD N__law_tale_condition.length [.int m, .lst (Ss rooms), .lst (Rs rows)] = [some (.int m), some (.lst (Ss rooms)), some (.lst (Rs rows)), none, none, none, none, none, none, none, none] := rfl
  have R := rl_lst (st := st) (rows := rows)
  have e1 : ∀ (x3 x5 x6 x7 x8 x9 x10 : Option D), mLc false (mItems (mVar 2)) (.one 4) [4] (mTest (mBin (dIn true) (mC (.str "door")) (mBin dIx (mVar 4) (mC (.int 4))))) (mBin dIx (mVar 4) (mC (.int 0))) [some (.int m), some (.lst (Ss rooms)), some (.lst (Rs rows)), x3, none, x5, x6, x7, x8, x9, x10] st = .ok (.lst (Ss (nms npl rows))) st := fun x3 x5 x6 x7 x8 x9 x10 => by
    rw [← ss_nms]
    refine lc_rows R (by omega) rfl (fun r _ => ?_) (fun r _ _ => rfl)
    have q := r_trs (st := st) r
    simp_arith [q]
    rfl
  have e2 : ∀ (x3 x5 x6 x7 x8 x9 x10 : Option D), mLc false (mItems (mVar 2)) (.one 4) [4] (mOrT (mTest (mBin (dIn false) (mC (.str "box")) (mBin dIx (mVar 4) (mC (.int 4))))) (mTest (mBin (dIn false) (mC (.str "stand")) (mBin dIx (mVar 4) (mC (.int 4)))))) (mBin dIx (mVar 4) (mC (.int 0))) [some (.int m), some (.lst (Ss rooms)), some (.lst (Rs rows)), x3, none, x5, x6, x7, x8, x9, x10] st = .ok (.lst (Ss (nms hld rows))) st := fun x3 x5 x6 x7 x8 x9 x10 => by
    rw [← ss_nms]
    refine lc_rows R (by omega) rfl (fun r _ => ?_) (fun r _ _ => rfl)
    have q := r_trs (st := st) r
    by_cases c : ("box" : Str) ∈ r.trs
    · have z : hld r = true := by simp [hld, c]
      simp_arith [q, c, z]
    · have z : hld r = decide (("stand" : Str) ∈ r.trs) := by simp [hld, c]
      simp_arith [q, c, z]
  have d1 : [D.str "is", .str "at", .str "in", .str "with", .str "nowhere", .str "open", .str "worn", .str "you", .str "is"] = Ss SRT := rfl
  have d2 : D.tup [.str "with", .str "nowhere", .str "open", .str "worn"] = .tup (Ss WNO) := rfl
  have d3 : [D.str "fed", .str "mood"] = Ss FM := rfl
  have d1l : (Ss SRT).length ≤ 16777216 := by decide
  have d3l : (Ss FM).length ≤ 16777216 := by decide
  have e3 := pick_run (st := st) (ws := SRT) (m := m / 3) (L := 9) rfl (by decide)
  have m3 := pick_mem (ws := SRT) (m := m / 3) (L := 9) rfl (by decide)
  generalize SRT.getD (m / 3 % 9).toNat "" = s at *
  have e4 := ss_cnt (st := st) rooms
  have e5 := ss_cnt (st := st) (nms npl rows)
  have e6 := ss_cnt (st := st) (nms hld rows)
  have lb := nms_len npl rows
  have lh := nms_len hld rows
  have e7 := ss_ne (st := st) (l := nms npl rows) (by omega) true
  have e8 := ss_ne (st := st) (l := nms hld rows) (by omega) true
  have kp : ∀ x ∈ nms npl rows, x ∈ ks (rl rows) := fun x hx => nms_ks hx
  have kh : ∀ x ∈ nms hld rows, ∃ r ∈ rows, r.name = x := fun x hx => by
    obtain ⟨r, h1, _, h2⟩ := nms_mem hx
    exact ⟨r, h1, h2⟩
  obtain ⟨fm, hfm, e9⟩ := fm_pick (m / 27)
  have e10 := in_tup (st := st) false s WNO
  have e11 := pick_run (st := st) (ws := rooms) (m := m / 27) rfl (by omega)
  have e12 := pick_run (st := st) (ws := rooms) (m := m / 27 / 12) rfl (by omega)
  have lc : ∀ (x : Str) (x3 x5 x6 x7 x8 x10 : Option D), mLc false (mItems (mVar 2)) (.one 4) [4] (mTest (mBin (dEq false) (mBin dIx (mVar 4) (mC (.int 0))) (mVar 9))) (mIfE (mTest (mBin (dIn false) (mC (.str "box")) (mBin dIx (mVar 4) (mC (.int 4))))) (mC (.str "in")) (mC (.str "on"))) [some (.int m), some (.lst (Ss rooms)), some (.lst (Rs rows)), x3, none, x5, x6, x7, x8, some (.str x), x10] st = .ok (.lst ((rows.filter fun r => decide (r.name = x)).map fun r => .str (lnk r))) st := fun x x3 x5 x6 x7 x8 x10 => by
    refine lc_rows R (by omega) rfl (fun r _ => ?_) (fun r _ _ => ?_)
    · have q := r_nm (st := st) r
      simp_arith [q]
    · have q := r_trs (st := st) r
      by_cases c : ("box" : Str) ∈ r.trs
      · have z : lnk r = "in" := by simp [lnk, c]
        simp_arith [q, c, z]
      · have z : lnk r = "on" := by simp [lnk, c]
        simp_arith [q, c, z]
  generalize nms npl rows = ps at *
  generalize nms hld rows = hs at *
  have w1 : ¬ ("is" : Str) = "you" := by decide +kernel
  have w2 : ¬ ("is" : Str) = "in" := by decide +kernel
  have w3 : ¬ ("is" : Str) = "at" := by decide +kernel
  have w4 : ¬ ("at" : Str) = "you" := by decide +kernel
  have w5 : ¬ ("at" : Str) = "in" := by decide +kernel
  have w6 : ¬ ("in" : Str) = "you" := by decide +kernel
  have w7 : ¬ ("in" : Str) = "at" := by decide +kernel
  have v1 : ¬ ("is" : Str) ∈ WNO := by decide +kernel
  have v2 : ¬ ("at" : Str) ∈ WNO := by decide +kernel
  have v3 : ¬ ("in" : Str) ∈ WNO := by decide +kernel
  have mIs : Cnd rows (.tup [.bl (decide (m % 3 = 0)), .str "is", .str fm, .int (m / 27 / 2 % 3)]) := .is _ _ _ hfm
  have fin : ∀ d : D, Cnd rows d → P__law_tale_condition (cF n) [some (.int m), some (.lst (Ss rooms)), some (.lst (Rs rows)), none, none, none, none, none, none, none, none] st = .rt d st → ∃ d, Cnd rows d ∧ cF (n + 1) i__law_tale_condition [.int m, .lst (Ss rooms), .lst (Rs rows)] st = .ok d st := fun d h1 h2 => ⟨d, h1, cp rfl rfl B__law_tale_condition (by rw [e0]; exact h2) (h1.tr.fz (by decide))⟩
  have i0 : ∀ l : List Str, l ≠ [] → l.isEmpty = false := fun l hl => by cases l with
    | nil => exact absurd rfl hl
    | cons x r => rfl
  have four : ∀ s : Str, s ∈ WNO → ¬ s = "you" → ¬ s = "in" → ¬ s = "at" → (∀ x ∈ ks (rl rows), Cnd rows (.tup [.bl (decide (m % 3 = 0)), .str s, .str x, .str ""])) → dIx (.lst (Ss SRT)) (.int (m / 3 % 9)) st = .ok (.str s) st → dIn false (.str s) (.tup (Ss WNO)) st = .ok (.bl (sgn false (decide (s ∈ WNO)))) st → ∃ d, Cnd rows d ∧ cF (n + 1) i__law_tale_condition [.int m, .lst (Ss rooms), .lst (Rs rows)] st = .ok d st := fun s h1 h2 h3 h4 h5 e3 e10 => by
    by_cases c : ps = []
    · have i1 : ps.isEmpty = true := by rw [c]; rfl
      refine fin _ mIs ?_
      unfold P__law_tale_condition
      simp_arith [d1, d1l, d2, d3, d3l, e1, e2, e3, h2, h3, h4, e10, h1, e7, i1, e9]
    · have hb : 0 < ps.length := List.length_pos_iff.mpr c
      have e13 := pick_run (st := st) (ws := ps) (m := m / 27) rfl (by omega)
      have m13 := pick_mem (ws := ps) (m := m / 27) rfl (by omega)
      have i1 := i0 ps c
      refine fin _ (h5 _ (kp _ m13)) ?_
      unfold P__law_tale_condition
      simp_arith [d1, d1l, d2, d3, d3l, e1, e2, e3, h2, h3, h4, e10, h1, e7, i1, e5, e13]
  have hs9 : s = "is" ∨ s = "at" ∨ s = "in" ∨ s = "with" ∨ s = "nowhere" ∨ s = "open" ∨ s = "worn" ∨ s = "you" := by
    simp only [SRT, List.mem_cons, List.not_mem_nil, or_false] at m3
    rcases m3 with h | h | h | h | h | h | h | h | h <;> simp [h]
  rcases hs9 with rfl | rfl | rfl | rfl | rfl | rfl | rfl | rfl
  · refine fin _ mIs ?_
    unfold P__law_tale_condition
    simp_arith [d1, d1l, d2, d3, d3l, e1, e2, e3, w1, w2, w3, e10, v1, e9]
  · by_cases c : ps = []
    · have i1 : ps.isEmpty = true := by rw [c]; rfl
      refine fin _ mIs ?_
      unfold P__law_tale_condition
      simp_arith [d1, d1l, d2, d3, d3l, e1, e2, e3, w4, w5, e10, v2, e7, i1, e9]
    · have hb : 0 < ps.length := List.length_pos_iff.mpr c
      have e13 := pick_run (st := st) (ws := ps) (m := m / 27) rfl (by omega)
      have m13 := pick_mem (ws := ps) (m := m / 27) rfl (by omega)
      have i1 := i0 ps c
      refine fin _ (.two (decide (m % 3 = 0)) "at" _ (rooms.getD (m / 27 / 12 % (rooms.length : Int)).toNat "") (.inl rfl) (kp _ m13)) ?_
      unfold P__law_tale_condition
      simp_arith [d1, d1l, d2, d3, d3l, e1, e2, e3, w4, w5, e7, i1, e5, e13, e4, e12]
  · by_cases c : hs = [] ∨ ps = []
    · refine fin _ mIs ?_
      by_cases c1 : hs = []
      · have i1 : hs.isEmpty = true := by rw [c1]; rfl
        unfold P__law_tale_condition
        simp_arith [d1, d1l, d2, d3, d3l, e1, e2, e3, w6, w7, e10, v3, e8, i1, e9]
      · have c2 : ps = [] := c.resolve_left c1
        have i1 : ps.isEmpty = true := by rw [c2]; rfl
        have i2 := i0 hs c1
        unfold P__law_tale_condition
        simp_arith [d1, d1l, d2, d3, d3l, e1, e2, e3, w6, w7, e10, v3, e8, e7, i1, i2, e9]
    · rw [not_or] at c
      have hb : 0 < ps.length := List.length_pos_iff.mpr c.2
      have hb2 : 0 < hs.length := List.length_pos_iff.mpr c.1
      have e13 := pick_run (st := st) (ws := ps) (m := m / 27 / 12) rfl (by omega)
      have m13 := pick_mem (ws := ps) (m := m / 27 / 12) rfl (by omega)
      have e14 := pick_run (st := st) (ws := hs) (m := m / 27) rfl (by omega)
      have m14 := pick_mem (ws := hs) (m := m / 27) rfl (by omega)
      have i1 := i0 ps c.2
      have i2 := i0 hs c.1
      generalize hs.getD (m / 27 % (hs.length : Int)).toNat "" = x at *
      generalize ps.getD (m / 27 / 12 % (ps.length : Int)).toNat "" = y at *
      obtain ⟨r, hr, hx⟩ := kh x m14
      have hf : r ∈ rows.filter fun r => decide (r.name = x) := List.mem_filter.mpr ⟨hr, decide_eq_true hx⟩
      obtain ⟨r0, rs, e15⟩ : ∃ r0 rs, (rows.filter fun r => decide (r.name = x)) = r0 :: rs := by
        cases q : (rows.filter fun r => decide (r.name = x)) with
        | nil => rw [q] at hf; simp at hf
        | cons a b => exact ⟨a, b, rfl⟩
      have e16 := lc x
      rw [e15] at e16
      have e17 : dIx (.lst ((r0 :: rs).map fun r => D.str (lnk r))) (.int 0) st = .ok (.str (lnk r0)) st := by
        rw [ix_lst (by decide) (by simp)]
        rfl
      refine fin (.tup [.bl (decide (m % 3 = 0)), .str (lnk r0), .str y, .str x]) (.two _ _ _ _ (by unfold lnk; split <;> simp) (kp _ m13)) ?_
      generalize ((r0 :: rs).map fun r => D.str (lnk r)) = ll at *
      unfold P__law_tale_condition
      simp_arith [d1, d1l, d2, d3, d3l, e1, e2, e3, w6, w7, e8, e7, i1, i2, e6, e14, e16, e17, e5, e13]
  · exact four "with" (by decide +kernel) (by decide +kernel) (by decide +kernel) (by decide +kernel) (fun x hx => .one _ _ _ (.inl rfl) hx) e3 e10
  · exact four "nowhere" (by decide +kernel) (by decide +kernel) (by decide +kernel) (by decide +kernel) (fun x hx => .one _ _ _ (.inr rfl) hx) e3 e10
  · exact four "open" (by decide +kernel) (by decide +kernel) (by decide +kernel) (by decide +kernel) (fun x hx => .opn _ _ hx) e3 e10
  · exact four "worn" (by decide +kernel) (by decide +kernel) (by decide +kernel) (by decide +kernel) (fun x hx => .wrn _ _ hx) e3 e10
  · refine fin _ (.you (decide (m % 3 = 0)) (rooms.getD (m / 27 % (rooms.length : Int)).toNat "")) ?_
    unfold P__law_tale_condition
    simp_arith [d1, d1l, d2, d3, d3l, e1, e2, e3, e4, e11]
end K20
namespace K20
open PySem L2 Mi
local macro_rules
  | `(tactic| simp_arith [$ts,*]) => `(tactic| simp (disch := first | assumption | omega | (simp only [List.length_cons, List.length_nil, List.length_map, List.length_append]; done) | (simp only [List.length_cons, List.length_nil, List.length_map, List.length_append]; omega)) only [↓reduceIte, r_seq, seq_nx, seq_rt, seq_no, seq_ex, seq_bk, seq_ct, OS_turn_nx, OS_turn_ct, OS_turn_rt, OS_turn_bk, turn_ex, O_bind_ok, O_bind_ex, O_bind_no, O_toS_ok, O_toS_ex, O_toS_no, O_strict_ok, r_var0, r_varS, r_C, r_nil, r_un, r_app, r_lst, r_tup, r_yes, r_nopart, r_snil, r_break, r_cont, r_retN, q_bin, q_bin2, q_cons, q_cons1, q_cons2, q_meth, q_meth1, q_tru, q_tru1, q_truO, q_test, q_test1, q_notT, q_notT1, q_andT, q_andTt, q_andTf, q_orT, q_orTt, q_orTf, q_ifE, q_ifT, q_iteT, q_iteF, q_andV, q_andV1, q_andOt, q_andOf, q_orV, q_orV1, q_orOt, q_orOf, q_notV, q_notV1, q_notO, q_chain, q_chain1, q_chain2, q_chain3t, q_chain3f, q_part, q_part1, q_sl, q_sl1, q_sl2, q_sl3, q_items, q_items1, q_srcO, q_enum, q_enum1, q_enumO, q_pnil, q_pair, q_pair1, q_pair2, q_pair3, q_disp, q_zip, q_zip1, q_zip2, zipS_tt, zipS_ll, q_range1, q_range11, q_range2, q_range21, q_range3, q_isi, q_isi1, q_isiO, q_isc, q_isc1, q_iscO, q_call, q_call1, q_attr, q_attr1, q_attrO, q_attrO2, q_mth, q_mth1, q_mthO, q_mth2, q_mth3, q_make, q_make1, q_asg, q_asg1, q_asgO, q_expr, q_expr1, q_ret, q_ret1, q_if, q_ift, q_iff, q_whilet, q_whilef, q_atr, q_atr1, q_atr2, q_aa1, q_aa2, q_aa3, q_aa4, q_step, q_step1, q_step2, insAt_ref, q_insO, setAt_ref, q_setO, isNonO_non, putD, bindT, setD, wipeD, List.map_cons, List.map_nil, List.replicate, List.set_cons_zero, List.set_cons_succ, List.cons_append, List.nil_append, List.append_nil, List.length_cons, List.length_nil, Nat.reduceAdd, Nat.reduceSub, Nat.reduceEqDiff, Nat.reduceLT, Int.reduceLT, Int.reduceLE, Int.reduceEq, Nat.zero_add, Nat.add_zero, e_ints, e_bls, e_strs, sgnT, sgnF, l_ints, a_ints, s_ints, tru_bl, len_str, ty_str, ty_int, ty_bl, ty_non, ty_lst, ty_tup, ty_frz, ty_dct, tyOf_ref, lt_ii, gt_ii, ge_ii, neg_i, is_non, isNon_non, isNon_str, isNon_lst, isNon_tup, isNon_ref, isNon_int, lstOf_ref, lstOf_lst, lstOf_frz, seqOf_tup, seqOf_frz, seqOf_lst, seqOf_ref, listOf_frz, listOf_lst, listOf_ref, listG_frz, listG_lst, listG_ref, items_lst, items_frz, items_tup, items_str, items_ref, rdOf_ref, rdOf_lst, rdOf_tup, rdOf_frz, rdOf_str, rdOf_dct, dctOf_ref, dctOf_lst, dctOf_tup, dctOf_frz, dctOf_str, dctOf_dct, len_lst, len_tup, len_frz, len_ref, list_any, tuple_tup, tuple_lst, tuple_frz, tuple_ref, int_int, int_bl, mkL_t, mkL_f, mkT_ok, append_ref, clear_ref, if_sz, tyD_ref, tyD_str, tyD_lst, add_lr, add_rl, add_rr, add_ll, add_tt, add_ss, mod_ii, div_ii, mul_ii, List.lookup_cons, beq_self_eq_true, Bool.and_true, Bool.true_and, Bool.or_true, Bool.true_or, Bool.false_or, Bool.or_false, Bool.false_and, Bool.and_false, Bool.not_true, Bool.not_false, Bool.false_eq_true, Bool.true_eq_false, Option.isSome_some, Option.isSome_none, Option.map_some, Option.map_none, decide_true, decide_false, if_true, if_false, get_at, get_at_add, set_at, set_at_add, List.append_assoc, List.getElem?_cons_zero, List.getElem?_cons_succ, in_tup, in_lst, and_true, true_and, and_self, $ts,*])
variable {n : Nat} {st : Store}
inductive Eff (rooms : List Str) (rows : List Row) : D → Prop
  | say (t : Str) : Eff rooms rows (.tup [.str "say", .str t])
  | set (s : Str) (v : Int) (hs : s = "fed" ∨ s = "mood") (hv : 0 ≤ v ∧ v ≤ 9) : Eff rooms rows (.tup [.str "set", .str s, .int v])
  | stop : Eff rooms rows (.tup [.str "stop"])
  | move (t : Str) (w : List Str) (ht : ∃ r ∈ rows, r.name = t ∧ ("door" : Str) ∉ r.trs) (hw : WhOk rooms rows w) : Eff rooms rows (.tup [.str "move", .str t, dW w])
theorem WhOk.le {rooms : List Str} {rows : List Row} {w : List Str} (h : WhOk rooms rows w) : w.length ≤ 2 := by
  cases h <;> simp
theorem Eff.tr {rooms : List Str} {rows : List Row} {d : D} (h : Eff rooms rows d) : Tr 3 d := by
  cases h with
  | say t => exact .tup (fun y hy => by
      simp only [List.mem_cons, List.not_mem_nil, or_false] at hy
      rcases hy with rfl | rfl
      · exact .str _ _
      · exact .str _ _) (by simp)
  | set s v => exact .tup (fun y hy => by
      simp only [List.mem_cons, List.not_mem_nil, or_false] at hy
      rcases hy with rfl | rfl | rfl
      · exact .str _ _
      · exact .str _ _
      · exact .int _ _) (by simp)
  | stop => exact .tup (fun y hy => by
      simp only [List.mem_cons, List.not_mem_nil, or_false] at hy
      rcases hy with rfl
      exact .str _ _) (by simp)
  | move t w ht hw =>
    have := hw.le
    exact .tup (fun y hy => by
      simp only [List.mem_cons, List.not_mem_nil, or_false] at hy
      rcases hy with rfl | rfl | rfl
      · exact .str _ _
      · exact .str _ _
      · exact .tup (Tr.ss 0 _) (by rw [List.length_map]; omega)) (by simp)
def SAY : List Str := ["the lamp flickers", "a", "not now", "you smile"]
def w0L (p : Str) : List (List Str) := [["at", p], ["with"], ["nowhere"]]
def inL (bs : List Str) : List (List Str) := bs.map fun b => ["in", b]
def onL (bs : List Str) : List (List Str) := bs.map fun b => ["on", b]
def whl (p : Str) (bs ss : List Str) : List (List Str) := w0L p ++ inL bs ++ onL ss
noncomputable def effTl : MS := (sSeq (sIf (mTest (mBin (dEq false) (mVar 4) (mLst false mNil))) (sRet (mTup (mCons (mC (.str "say")) (mCons (mC (.str "nothing")) mNil)))) sNil)
    (sSeq (sAsg (mLst false (mCons (mTup (mCons (mC (.str "at")) (mCons (mBin dIx (mVar 1) (mBin dMod (mBin dDiv (mVar 7) (mC (.int 12))) (mApp dLen (mCons (mVar 1) mNil)))) mNil))) (mCons (mTup (mCons (mC (.str "with")) mNil)) (mCons (mTup (mCons (mC (.str "nowhere")) mNil)) mNil)))) (.one 8))
    (sSeq (sAsg (mBin (dAdd false) (mVar 8) (mLc false (mItems (mVar 6)) (.one 9) [9] mYes (mTup (mCons (mC (.str "in")) (mCons (mVar 9) mNil))))) (.one 8))
    (sSeq (sAsg (mBin (dAdd false) (mVar 8) (mLc false (mItems (mVar 2)) (.one 5) [5] (mTest (mBin (dIn false) (mC (.str "stand")) (mBin dIx (mVar 5) (mC (.int 4))))) (mTup (mCons (mC (.str "on")) (mCons (mBin dIx (mVar 5) (mC (.int 0))) mNil))))) (.one 8))
    (sRet (mTup (mCons (mC (.str "move")) (mCons (mBin dIx (mVar 4) (mBin dMod (mVar 7) (mApp dLen (mCons (mVar 4) mNil)))) (mCons (mBin dIx (mVar 8) (mBin dMod (mBin dDiv (mVar 7) (mC (.int 40))) (mApp dLen (mCons (mVar 8) mNil)))) mNil)))))))))
theorem effect_run {m : Int} {rooms : List Str} {rows : List Row} {book : Str} (hl : rows.length ≤ 12) (hp : 0 < rooms.length) :
    ∃ d, Eff rooms rows d ∧ cF (n + 1) i__law_tale_effect [.int m, .lst (Ss rooms), .lst (Rs rows), .str book] st = .ok d st := by
  have e0 : startD N__law_tale_effect.length [.int m, .lst (Ss rooms), .lst (Rs rows), .str book] = [some (.int m), some (.lst (Ss rooms)), some (.lst (Rs rows)), some (.str book), none, none, none, none, none, none] := rfl
  have R := rl_lst (st := st) (rows := rows)
  have e1 : ∀ (x4 x6 x7 x8 x9 : Option D), mLc false (mItems (mVar 2)) (.one 5) [5] (mTest (mBin (dIn true) (mC (.str "door")) (mBin dIx (mVar 5) (mC (.int 4))))) (mBin dIx (mVar 5) (mC (.int 0))) [some (.int m), some (.lst (Ss rooms)), some (.lst (Rs rows)), some (.str book), x4, none, x6, x7, x8, x9] st = .ok (.lst (Ss (nms npl rows))) st := fun x4 x6 x7 x8 x9 => by
    rw [← ss_nms]
    refine lc_rows R (by omega) rfl (fun r _ => ?_) (fun r _ _ => rfl)
    have q := r_trs (st := st) r
    simp_arith [q]
    rfl
  have e2 : ∀ (x4 x6 x7 x8 x9 : Option D), mLc false (mItems (mVar 2)) (.one 5) [5] (mTest (mBin (dIn false) (mC (.str "box")) (mBin dIx (mVar 5) (mC (.int 4))))) (mBin dIx (mVar 5) (mC (.int 0))) [some (.int m), some (.lst (Ss rooms)), some (.lst (Rs rows)), some (.str book), x4, none, x6, x7, x8, x9] st = .ok (.lst (Ss (nms (isT "box") rows))) st := fun x4 x6 x7 x8 x9 => by
    rw [← ss_nms]
    refine lc_rows R (by omega) rfl (fun r _ => ?_) (fun r _ _ => rfl)
    have q := r_trs (st := st) r
    simp_arith [q]
    rfl
  have e3 : ∀ (x4 x6 x7 x8 x9 : Option D), mLc false (mItems (mVar 2)) (.one 5) [5] (mTest (mBin (dIn false) (mC (.str "stand")) (mBin dIx (mVar 5) (mC (.int 4))))) (mTup (mCons (mC (.str "on")) (mCons (mBin dIx (mVar 5) (mC (.int 0))) mNil))) [some (.int m), some (.lst (Ss rooms)), some (.lst (Rs rows)), some (.str book), x4, none, x6, x7, x8, x9] st = .ok (.lst ((onL (nms (isT "stand") rows)).map dW)) st := fun x4 x6 x7 x8 x9 => by
    have z : (onL (nms (isT "stand") rows)).map dW = (rows.filter (isT "stand")).map fun r => D.tup [.str "on", .str r.name] := by
      unfold onL nms
      rw [List.map_map, List.map_map]
      rfl
    rw [z]
    refine lc_rows R (by omega) rfl (fun r _ => ?_) (fun r _ _ => rfl)
    have q := r_trs (st := st) r
    simp_arith [q]
    rfl
  have e4 : ∀ (bs : List Str), bs.length ≤ 1000 → ∀ (x4 x5 x7 x8 : Option D), mLc false (mItems (mVar 6)) (.one 9) [9] mYes (mTup (mCons (mC (.str "in")) (mCons (mVar 9) mNil))) [some (.int m), some (.lst (Ss rooms)), some (.lst (Rs rows)), some (.str book), x4, x5, some (.lst (Ss bs)), x7, x8, none] st = .ok (.lst ((inL bs).map dW)) st := fun bs hb x4 x5 x7 x8 => by
    unfold inL
    rw [List.map_map]
    exact mLc_all (enc := D.str) (g := []) (xs := bs) rfl (guard_nil _) (by unfold sizeLine; omega) fun b _ => ⟨_, rfl, rfl⟩
  have d1 : [D.str "the lamp flickers", .str "a", .str "not now", .str "you smile"] = Ss SAY := rfl
  have d3 : [D.str "fed", .str "mood"] = Ss FM := rfl
  have d1l : (Ss SAY).length ≤ 16777216 := by decide
  have d3l : (Ss FM).length ≤ 16777216 := by decide
  have e5 := pick_run (st := st) (ws := SAY) (m := m / 6) (L := 4) rfl (by decide)
  obtain ⟨fm, hfm, e9⟩ := fm_pick (m / 6)
  have e6 := ss_cnt (st := st) rooms
  have e7 := ss_cnt (st := st) (nms npl rows)
  have lb := nms_len npl rows
  have lx := nms_len (isT "box") rows
  have ly := nms_len (isT "stand") rows
  have e8 := ss_ne (st := st) (l := nms npl rows) (by omega) false
  have e10 := pick_run (st := st) (ws := rooms) (m := m / 6 / 12) rfl (by omega)
  have m10 := pick_mem (ws := rooms) (m := m / 6 / 12) rfl (by omega)
  have fin : ∀ d : D, Eff rooms rows d → P__law_tale_effect (cF n) [some (.int m), some (.lst (Ss rooms)), some (.lst (Rs rows)), some (.str book), none, none, none, none, none, none] st = .rt d st → ∃ d, Eff rooms rows d ∧ cF (n + 1) i__law_tale_effect [.int m, .lst (Ss rooms), .lst (Rs rows), .str book] st = .ok d st := fun d h1 h2 => ⟨d, h1, cp rfl rfl B__law_tale_effect (by rw [e0]; exact h2) (h1.tr.fz (by decide))⟩
  have mp : ∀ x ∈ nms npl rows, ∃ r ∈ rows, r.name = x ∧ ("door" : Str) ∉ r.trs := fun x hx => by
    obtain ⟨r, h1, h2, h3⟩ := nms_mem hx
    exact ⟨r, h1, h3, by simpa [npl] using h2⟩
  have mw : ∀ w ∈ whl (rooms.getD (m / 6 / 12 % (rooms.length : Int)).toNat "") (nms (isT "box") rows) (nms (isT "stand") rows), WhOk rooms rows w := fun w hw => by
    unfold whl w0L inL onL at hw
    rcases List.mem_append.mp hw with hw | hw
    · rcases List.mem_append.mp hw with hw | hw
      · simp only [List.mem_cons, List.not_mem_nil, or_false] at hw
        rcases hw with rfl | rfl | rfl
        · exact .place m10
        · exact .mine
        · exact .away
      · obtain ⟨b, hb, rfl⟩ := List.mem_map.mp hw
        obtain ⟨r, h1, h2, rfl⟩ := nms_mem hb
        exact .box h1 (of_decide_eq_true h2)
    · obtain ⟨b, hb, rfl⟩ := List.mem_map.mp hw
      obtain ⟨r, h1, h2, rfl⟩ := nms_mem hb
      exact .stand h1 (of_decide_eq_true h2)
  generalize nms npl rows = ps at *
  generalize nms (isT "box") rows = bs at *
  generalize nms (isT "stand") rows = ss at *
  generalize rooms.getD (m / 6 / 12 % (rooms.length : Int)).toNat "" = rm at *
  have e11 := e4 bs (by omega)
  by_cases c1 : m % 6 < 2
  · refine fin _ (.say (SAY.getD (m / 6 % 4).toNat "")) ?_
    unfold P__law_tale_effect
    simp_arith [d1, d1l, e1, e2, c1, e5]
  by_cases c2 : m % 6 = 2
  · refine fin (.tup [.str "set", .str fm, .int (m / 6 / 2 % 3)]) (.set _ _ hfm (by omega)) ?_
    have w : ¬ (2 : Int) < 2 := by decide
    unfold P__law_tale_effect
    simp_arith [d3, d3l, e1, e2, c2, w, e9]
  by_cases c3 : m % 6 = 3 ∧ book = "before"
  · obtain ⟨c3, rfl⟩ := c3
    refine fin _ .stop ?_
    have w : ¬ (3 : Int) < 2 := by decide
    have w2 : ¬ (3 : Int) = 2 := by decide
    unfold P__law_tale_effect
    simp_arith [e1, e2, c3, w, w2]
  have rest : ∀ x4 x7, x4 = some (D.lst (Ss ps)) → x7 = some (D.int (m / 6)) → ∃ d, Eff rooms rows d ∧ ∀ x5 : Option D, x5 = none → effTl [some (.int m), some (.lst (Ss rooms)), some (.lst (Rs rows)), some (.str book), x4, x5, some (.lst (Ss bs)), x7, none, none] st = .rt d st := fun x4 x7 h4 h7 => by
    subst h4
    subst h7
    by_cases c : ps = []
    · have i1 : ps.isEmpty = true := by rw [c]; rfl
      refine ⟨_, .say "nothing", fun x5 hx5 => ?_⟩
      subst hx5
      unfold effTl
      simp_arith [e8, i1]
    · have i1 : ps.isEmpty = false := by cases ps with
        | nil => exact absurd rfl c
        | cons x r => rfl
      have hb : 0 < ps.length := List.length_pos_iff.mpr c
      have e12 := pick_run (st := st) (ws := ps) (m := m / 6) rfl (by omega)
      have m12 := pick_mem (ws := ps) (m := m / 6) rfl (by omega)
      have a1 : [D.tup [.str "at", .str rm], .tup [.str "with"], .tup [.str "nowhere"]] = (w0L rm).map dW := rfl
      have l1 : ((w0L rm).map dW).length ≤ 16777216 := by simp [w0L]
      have a2 : (w0L rm).map dW ++ (inL bs).map dW = (w0L rm ++ inL bs).map dW := List.map_append.symm
      have a3 : (w0L rm ++ inL bs).map dW ++ (onL ss).map dW = (whl rm bs ss).map dW := List.map_append.symm
      have l2 : ((w0L rm ++ inL bs).map dW).length ≤ 16777216 := by simp [w0L, inL]; omega
      have lw : (whl rm bs ss).length = 3 + bs.length + ss.length := by simp [whl, w0L, inL, onL]; omega
      have l3 : ((whl rm bs ss).map dW).length ≤ 16777216 := by rw [List.length_map]; omega
      have hk : 0 ≤ m / 6 / 40 % ((whl rm bs ss).length : Int) ∧ m / 6 / 40 % ((whl rm bs ss).length : Int) < ((whl rm bs ss).length : Int) := ⟨Int.emod_nonneg _ (by omega), Int.emod_lt_of_pos _ (by omega)⟩
      have q3 : dLen [.lst ((whl rm bs ss).map dW)] st = .ok (.int ((whl rm bs ss).length : Int)) st := by rw [len_lst, List.length_map]
      obtain ⟨w, hw, q4⟩ : ∃ w ∈ whl rm bs ss, dIx (.lst ((whl rm bs ss).map dW)) (.int (m / 6 / 40 % ((whl rm bs ss).length : Int))) st = .ok (dW w) st := by
        generalize m / 6 / 40 % ((whl rm bs ss).length : Int) = j at *
        refine ⟨(whl rm bs ss)[j.toNat]'(by omega), List.getElem_mem _, ?_⟩
        rw [ix_lst hk.1 (by rw [List.length_map]; exact hk.2), List.getD_eq_getElem?_getD, List.getElem?_map, List.getElem?_eq_getElem (by omega)]
        rfl
      refine ⟨_, .move _ w (mp _ m12) (mw w hw), fun x5 hx5 => ?_⟩
      generalize (whl rm bs ss) = wl at *
      generalize wl.map dW = wd at *
      generalize (w0L rm ++ inL bs).map dW = w2 at *
      generalize (w0L rm).map dW = w0 at *
      generalize (inL bs).map dW = wb at *
      generalize (onL ss).map dW = ws at *
      subst hx5
      unfold effTl
      simp_arith [e8, i1, e6, e10, a1, l1, e11, a2, l2, e3, a3, l3, q3, e7, e12, q4]
  obtain ⟨d, hd, g⟩ := rest _ _ rfl rfl
  refine fin d hd ?_
  unfold P__law_tale_effect
  rw [← effTl.eq_1]
  by_cases c4 : m % 6 = 3
  · have c5 : ¬ book = "before" := fun z => c3 ⟨c4, z⟩
    have w : ¬ (3 : Int) < 2 := by decide
    have w2 : ¬ (3 : Int) = 2 := by decide
    simp_arith [e1, e2, c4, w, w2, c5]
    exact g _ rfl
  · simp_arith [e1, e2, c1, c2, c4]
    exact g _ rfl
end K20
namespace K20
open PySem L2 Mi
local macro_rules
  | `(tactic| simp_arith [$ts,*]) => `(tactic| simp (disch := first | assumption | omega | (simp only [List.length_cons, List.length_nil, List.length_map, List.length_append]; done) | (simp only [List.length_cons, List.length_nil, List.length_map, List.length_append]; omega)) only [↓reduceIte, r_seq, seq_nx, seq_rt, seq_no, seq_ex, seq_bk, seq_ct, OS_turn_nx, OS_turn_ct, OS_turn_rt, OS_turn_bk, turn_ex, O_bind_ok, O_bind_ex, O_bind_no, O_toS_ok, O_toS_ex, O_toS_no, O_strict_ok, r_var0, r_varS, r_C, r_nil, r_un, r_app, r_lst, r_tup, r_yes, r_nopart, r_snil, r_break, r_cont, r_retN, q_bin, q_bin2, q_cons, q_cons1, q_cons2, q_meth, q_meth1, q_tru, q_tru1, q_truO, q_test, q_test1, q_notT, q_notT1, q_andT, q_andTt, q_andTf, q_orT, q_orTt, q_orTf, q_ifE, q_ifT, q_iteT, q_iteF, q_andV, q_andV1, q_andOt, q_andOf, q_orV, q_orV1, q_orOt, q_orOf, q_notV, q_notV1, q_notO, q_chain, q_chain1, q_chain2, q_chain3t, q_chain3f, q_part, q_part1, q_sl, q_sl1, q_sl2, q_sl3, q_items, q_items1, q_srcO, q_enum, q_enum1, q_enumO, q_pnil, q_pair, q_pair1, q_pair2, q_pair3, q_disp, q_zip, q_zip1, q_zip2, zipS_tt, zipS_ll, q_range1, q_range11, q_range2, q_range21, q_range3, q_isi, q_isi1, q_isiO, q_isc, q_isc1, q_iscO, q_call, q_call1, q_attr, q_attr1, q_attrO, q_attrO2, q_mth, q_mth1, q_mthO, q_mth2, q_mth3, q_make, q_make1, q_asg, q_asg1, q_asgO, q_expr, q_expr1, q_ret, q_ret1, q_if, q_ift, q_iff, q_whilet, q_whilef, q_atr, q_atr1, q_atr2, q_aa1, q_aa2, q_aa3, q_aa4, q_step, q_step1, q_step2, insAt_ref, q_insO, setAt_ref, q_setO, isNonO_non, putD, bindT, setD, wipeD, List.map_cons, List.map_nil, List.replicate, List.set_cons_zero, List.set_cons_succ, List.cons_append, List.nil_append, List.append_nil, List.length_cons, List.length_nil, Nat.reduceAdd, Nat.reduceSub, Nat.reduceEqDiff, Nat.reduceLT, Int.reduceLT, Int.reduceLE, Int.reduceEq, Nat.zero_add, Nat.add_zero, e_ints, e_bls, e_strs, sgnT, sgnF, l_ints, a_ints, s_ints, tru_bl, len_str, ty_str, ty_int, ty_bl, ty_non, ty_lst, ty_tup, ty_frz, ty_dct, tyOf_ref, lt_ii, gt_ii, ge_ii, neg_i, is_non, isNon_non, isNon_str, isNon_lst, isNon_tup, isNon_ref, isNon_int, lstOf_ref, lstOf_lst, lstOf_frz, seqOf_tup, seqOf_frz, seqOf_lst, seqOf_ref, listOf_frz, listOf_lst, listOf_ref, listG_frz, listG_lst, listG_ref, items_lst, items_frz, items_tup, items_str, items_ref, rdOf_ref, rdOf_lst, rdOf_tup, rdOf_frz, rdOf_str, rdOf_dct, dctOf_ref, dctOf_lst, dctOf_tup, dctOf_frz, dctOf_str, dctOf_dct, len_lst, len_tup, len_frz, len_ref, list_any, tuple_tup, tuple_lst, tuple_frz, tuple_ref, int_int, int_bl, mkL_t, mkL_f, mkT_ok, append_ref, clear_ref, if_sz, tyD_ref, tyD_str, tyD_lst, add_lr, add_rl, add_rr, add_ll, add_tt, add_ss, mod_ii, div_ii, mul_ii, List.lookup_cons, beq_self_eq_true, Bool.and_true, Bool.true_and, Bool.or_true, Bool.true_or, Bool.false_or, Bool.or_false, Bool.false_and, Bool.and_false, Bool.not_true, Bool.not_false, Bool.false_eq_true, Bool.true_eq_false, Option.isSome_some, Option.isSome_none, Option.map_some, Option.map_none, decide_true, decide_false, if_true, if_false, get_at, get_at_add, set_at, set_at_add, List.append_assoc, List.getElem?_cons_zero, List.getElem?_cons_succ, in_tup, in_lst, and_true, true_and, and_self, $ts,*])
variable {n : Nat} {st : Store}
/-! ### rules -/
theorem get_last {o : Ob} : (st ++ [o])[st.length]? = some o := by rw [List.getElem?_append_right (Nat.le_refl _), Nat.sub_self]; rfl
theorem tupl_ref {i : Nat} {xs : List D} (h : st[i]? = some (.lst xs)) (hl : xs.length ≤ 1000) : dTuple [.ref i] st = .ok (.tup xs) st := by
  have q : xs.length ≤ 16777216 := by omega
  simp_arith [h, q]
theorem set_same {i : Nat} {o : Ob} (h : st[i]? = some o) : st.set i o = st := by
  obtain ⟨hl, e⟩ := List.getElem?_eq_some_iff.mp h
  rw [← e]
  exact List.set_getElem_self hl
theorem deep_ref {k i : Nat} {xs : List D} (h : st[i]? = some (.lst xs)) : deep (k + 1) st (.ref i) = deep (k + 1) st (.lst xs) := by
  show (match st[i]? with
    | some (.lst xs) => (sq (xs.map (deep k st))).map D.lst
    | _ => none) = _
  rw [h]
  rfl
theorem in_ref {ng : Bool} {i : Nat} {l xs : List D} {j k : Nat} (h : st[i]? = some (.lst l)) (hx : Tr k (.tup xs)) (hl : Tr j (.lst l)) (hk : k ≤ 64) (hj : j ≤ 64) : dIn ng (.tup xs) (.ref i) st = .ok (.bl (sgn ng (l.any fun y => eqD y (.tup xs)))) st := by
  have q1 : rdOf st (.ref i) = none := by
    show (match st[i]? with
      | some (.dct xs) => some xs
      | some (.lck xs) => some xs
      | _ => none) = none
    rw [h]
  unfold dIn
  dsimp only
  rw [q1, hx.deep hk, deep_ref h, hl.deep hj]
/-- so many conditions -/
theorem conds_for {rooms : List Str} {rows : List Row} {x0 x3 x4 x5 x6 x8 x12 : Option D} {o : Int} {a : Nat} (hl : rows.length ≤ 12) (hp : 0 < rooms.length) : ∀ (ks : List Nat) (cs : List D) (st : Store) (x7 x11 : Option D), (∀ k ∈ ks, k ≤ 1000) → cs.length + ks.length ≤ 100 → st[a]? = some (.lst cs) → (∀ c ∈ cs, Cnd rows c) →
    ∃ cs' z7 z11, forGo [] (.one 11) (sSeq (sAsg (mCall 3 (cF (n + 2) i__law_tale_condition) (mCons (mCall 2 (cF (n + 2) i__law_mixed) (mCons (mVar 9) (mCons (mVar 11) mNil))) (mCons (mVar 1) (mCons (mVar 2) mNil)))) (.one 7))
    (sIf (mTest (mBin (dIn true) (mBin (dAdd false) (mTup (mCons (mNotV (mBin dIx (mVar 7) (mC (.int 0)))) mNil)) (mSl false (mVar 7) (mPart (mC (.int 1))) mNoPart)) (mVar 10))) (sExpr (mMeth "list" dAppend (mVar 10) (mCons (mVar 7) mNil))) sNil)) (ks.map fun (k : Nat) => D.int (k : Int)) [x0, some (.lst (Ss rooms)), some (.lst (Rs rows)), x3, x4, x5, x6, x7, x8, some (.int o), some (.ref a), x11, x12] st
      = .nx [x0, some (.lst (Ss rooms)), some (.lst (Rs rows)), x3, x4, x5, x6, z7, x8, some (.int o), some (.ref a), z11, x12] (st.set a (.lst cs')) ∧ (∀ c ∈ cs', Cnd rows c) ∧ cs'.length ≤ cs.length + ks.length
  | [], cs, st, x7, x11, _, _, h, hc => ⟨cs, x7, x11, by rw [show st.set a (.lst cs) = st from set_same h]; exact for_nil, hc, by simp⟩
  | k :: ks, cs, st, x7, x11, hk, hlen, h, hc => by
    have h1 := hk k (List.mem_cons_self ..)
    simp at hlen
    obtain ⟨d, hd, e1⟩ := cond_run (n := n + 1) (st := st) (m := dr o (k : Int)) hl hp
    have e2 := mixed_run (n := n + 1) (st := st) (c := o) (k := (k : Int)) (by omega) (by omega)
    obtain ⟨b, s, t, x, rfl, hx⟩ := hd.four
    have e3 : dIx (.tup [.bl b, .str s, .str t, x]) (.int 0) st = .ok (.bl b) st := rfl
    have e4 : dSl false (.tup [.bl b, .str s, .str t, x]) (some 1) none st = .ok (.tup [.str s, .str t, x]) st := rfl
    have tr1 : Tr 2 (.tup [.bl (!b), .str s, .str t, x]) := .tup (fun y hy => by
      simp only [List.mem_cons, List.not_mem_nil, or_false] at hy
      rcases hy with rfl | rfl | rfl | rfl
      · exact .bl _ _
      · exact .str _ _
      · exact .str _ _
      · exact hx) (by simp)
    have tr2 : Tr 3 (.lst cs) := .lst (fun y hy => (hc y hy).tr) (by omega)
    have e5 : ∃ bb : Bool, dIn true (.tup [.bl (!b), .str s, .str t, x]) (.ref a) st = .ok (.bl bb) st := ⟨_, in_ref h tr1 tr2 (by decide) (by decide)⟩
    obtain ⟨bb, e5⟩ := e5
    have e6 : ("list" == "list") = true := rfl
    cases bb with
    | true =>
      have hc' : ∀ c ∈ cs ++ [.tup [.bl b, .str s, .str t, x]], Cnd rows c := fun c hm => by
        rcases List.mem_append.mp hm with hm | hm
        · exact hc c hm
        · have : c = .tup [.bl b, .str s, .str t, x] := by simpa using hm
          rw [this]; exact hd
      obtain ⟨cs', z7, z11, g1, g2, g3⟩ := conds_for hl hp ks (cs ++ [.tup [.bl b, .str s, .str t, x]]) (st.set a (.lst (cs ++ [.tup [.bl b, .str s, .str t, x]]))) (some (.tup [.bl b, .str s, .str t, x])) (some (.int (k : Int))) (fun j hj => hk j (List.mem_cons_of_mem _ hj)) (by simp; omega) (List.getElem?_set_self (lt_of_get h)) hc'
      refine ⟨cs', z7, z11, ?_, g2, by simp at g3 ⊢; omega⟩
      rw [List.set_set] at g1
      rw [List.map_cons, for_one]
      simp_arith [e1, e2, e3, e4, e5, e6, h, show cs.length < 16777216 by omega]
      exact g1
    | false =>
      obtain ⟨cs', z7, z11, g1, g2, g3⟩ := conds_for hl hp ks cs st (some (.tup [.bl b, .str s, .str t, x])) (some (.int (k : Int))) (fun j hj => hk j (List.mem_cons_of_mem _ hj)) (by omega) h hc
      refine ⟨cs', z7, z11, ?_, g2, by simp at g3 ⊢; omega⟩
      rw [List.map_cons, for_one]
      simp_arith [e1, e2, e3, e4, e5]
      exact g1
theorem effs_for {rooms : List Str} {rows : List Row} {x0 x4 x5 x6 x7 x8 x10 : Option D} {o : Int} {a : Nat} {book : Str} (hl : rows.length ≤ 12) (hp : 0 < rooms.length) : ∀ (ks : List Nat) (cs : List D) (st : Store) (x11 : Option D), (∀ k ∈ ks, k ≤ 1000) → cs.length + ks.length ≤ 100 → st[a]? = some (.lst cs) → (∀ c ∈ cs, Eff rooms rows c) →
    ∃ cs' z11, forGo [] (.one 11) (sExpr (mMeth "list" dAppend (mVar 12) (mCons (mCall 4 (cF (n + 2) i__law_tale_effect) (mCons (mCall 2 (cF (n + 2) i__law_mixed) (mCons (mVar 9) (mCons (mBin (dAdd false) (mC (.int 5)) (mVar 11)) mNil))) (mCons (mVar 1) (mCons (mVar 2) (mCons (mVar 3) mNil))))) mNil))) (ks.map fun (k : Nat) => D.int (k : Int)) [x0, some (.lst (Ss rooms)), some (.lst (Rs rows)), some (.str book), x4, x5, x6, x7, x8, some (.int o), x10, x11, some (.ref a)] st
      = .nx [x0, some (.lst (Ss rooms)), some (.lst (Rs rows)), some (.str book), x4, x5, x6, x7, x8, some (.int o), x10, z11, some (.ref a)] (st.set a (.lst cs')) ∧ (∀ c ∈ cs', Eff rooms rows c) ∧ cs'.length = cs.length + ks.length
  | [], cs, st, x11, _, _, h, hc => ⟨cs, x11, by rw [show st.set a (.lst cs) = st from set_same h]; exact for_nil, hc, by simp⟩
  | k :: ks, cs, st, x11, hk, hlen, h, hc => by
    have h1 := hk k (List.mem_cons_self ..)
    simp at hlen
    obtain ⟨d, hd, e1⟩ := effect_run (n := n + 1) (st := st) (m := dr o (5 + (k : Int))) (book := book) hl hp
    have e2 := mixed_run (n := n + 1) (st := st) (c := o) (k := 5 + (k : Int)) (by omega) (by omega)
    have e6 : ("list" == "list") = true := rfl
    have hc' : ∀ c ∈ cs ++ [d], Eff rooms rows c := fun c hm => by
      rcases List.mem_append.mp hm with hm | hm
      · exact hc c hm
      · have : c = d := by simpa using hm
        rw [this]; exact hd
    obtain ⟨cs', z11, g1, g2, g3⟩ := effs_for hl hp ks (cs ++ [d]) (st.set a (.lst (cs ++ [d]))) (some (.int (k : Int))) (fun j hj => hk j (List.mem_cons_of_mem _ hj)) (by simp; omega) (List.getElem?_set_self (lt_of_get h)) hc'
    refine ⟨cs', z11, ?_, g2, by simp at g3 ⊢; omega⟩
    rw [List.set_set] at g1
    rw [List.map_cons, for_one]
    simp_arith [e1, e2, e6, h, show cs.length < 16777216 by omega]
    exact g1
def BK : List Str := ["before", "instead", "after", "after", "before"]
def VB : List Str := ["take", "drop", "put", "open", "shut", "wear", "doff", "go", "wait", "take"]
theorem rule_run {m : Int} {rooms : List Str} {rows : List Row} (hl : rows.length ≤ 12) (hr : 0 < rows.length) (hp : 0 < rooms.length) (hp2 : rooms.length ≤ 10) :
    ∃ d, Tr 6 d ∧ cF (n + 3) i__law_rule [.int m, .lst (Ss rooms), .lst (Rs rows)] st = .ok d st := by
  have e0 : startD N__law_rule.length [.int m, .lst (Ss rooms), .lst (Rs rows)] = [some (.int m), some (.lst (Ss rooms)), some (.lst (Rs rows)), none, none, none, none, none, none, none, none, none, none] := rfl
  have d1 : [D.str "before", .str "instead", .str "after", .str "after", .str "before"] = Ss BK := rfl
  have d2 : [D.str "take", .str "drop", .str "put", .str "open", .str "shut", .str "wear", .str "doff", .str "go", .str "wait", .str "take"] = Ss VB := rfl
  have d1l : (Ss BK).length ≤ 16777216 := by decide
  have d2l : (Ss VB).length ≤ 16777216 := by decide
  have e1 := pick_run (st := st) (ws := BK) (m := m) (L := 5) rfl (by decide)
  have e2 := pick_run (st := st) (ws := VB) (m := m / 5) (L := 10) rfl (by decide)
  generalize BK.getD (m % 5).toNat "" = bk at *
  generalize VB.getD (m / 5 % 10).toNat "" = vb at *
  have e3 : ∀ (x6 x8 x9 x10 x11 x12 : Option D), ∃ ab : List Str, 0 < ab.length ∧ mIfE (mTest (mBin (dEq false) (mVar 4) (mC (.str "go")))) (mVar 1) (mLc false (mItems (mVar 2)) (.one 7) [7] mYes (mBin dIx (mVar 7) (mC (.int 0)))) [some (.int m), some (.lst (Ss rooms)), some (.lst (Rs rows)), some (.str bk), some (.str vb), some (.int (m / 50)), x6, none, x8, x9, x10, x11, x12] st = .ok (.lst (Ss ab)) st := fun x6 x8 x9 x10 x11 x12 => by
    by_cases c : vb = "go"
    · refine ⟨rooms, hp, ?_⟩
      simp_arith [c]
    · refine ⟨rows.map (·.name), by rw [List.length_map]; exact hr, ?_⟩
      have q : mLc false (mItems (mVar 2)) (.one 7) [7] mYes (mBin dIx (mVar 7) (mC (.int 0))) [some (.int m), some (.lst (Ss rooms)), some (.lst (Rs rows)), some (.str bk), some (.str vb), some (.int (m / 50)), x6, none, x8, x9, x10, x11, x12] st = .ok (.lst (Ss (rows.map (·.name)))) st := by
        rw [show Ss (rows.map (·.name)) = rows.map fun r => D.str r.name by show List.map D.str (List.map _ _) = _; rw [List.map_map]; rfl]
        refine mLc_all (enc := Row.d) (g := []) (xs := rows) rfl (guard_nil _) (by unfold sizeLine; omega) fun r _ => ⟨_, rfl, rfl⟩
      simp_arith [c, q]
  obtain ⟨ab, hab, e3⟩ := e3 none none none none none none
  have e4 : ∃ bt : Str, ∀ (x7 x8 x9 x10 x11 x12 : Option D), mIfE (mOrT (mTest (mBin (dEq false) (mVar 4) (mC (.str "wait")))) (mTest (mBin (dEq false) (mBin dMod (mVar 5) (mC (.int 3))) (mC (.int 0))))) (mC (.str "")) (mBin dIx (mVar 6) (mBin dMod (mBin dDiv (mVar 5) (mC (.int 3))) (mApp dLen (mCons (mVar 6) mNil)))) [some (.int m), some (.lst (Ss rooms)), some (.lst (Rs rows)), some (.str bk), some (.str vb), some (.int (m / 50)), some (.lst (Ss ab)), x7, x8, x9, x10, x11, x12] st = .ok (.str bt) st := by
    by_cases c : vb = "wait"
    · refine ⟨"", fun x7 x8 x9 x10 x11 x12 => ?_⟩
      simp_arith [c]
    · by_cases c2 : m / 50 % 3 = 0
      · refine ⟨"", fun x7 x8 x9 x10 x11 x12 => ?_⟩
        simp_arith [c, c2]
      · have q1 := ss_cnt (st := st) ab
        have q2 := pick_run (st := st) (ws := ab) (m := m / 50 / 3) rfl (by omega)
        refine ⟨ab.getD (m / 50 / 3 % (ab.length : Int)).toNat "", fun x7 x8 x9 x10 x11 x12 => ?_⟩
        simp_arith [c, c2, q1, q2]
  obtain ⟨bt, e4⟩ := e4
  have e5 := mixed_run (n := n + 1) (st := st) (c := m) (k := 2) (by decide) (by decide)
  generalize ho : dr m 2 = o at *
  have h3 : 0 ≤ o % 3 ∧ o % 3 < 3 := ⟨Int.emod_nonneg _ (by decide), Int.emod_lt_of_pos _ (by decide)⟩
  have h4 : 0 ≤ o / 3 % 3 ∧ o / 3 % 3 < 3 := ⟨Int.emod_nonneg _ (by decide), Int.emod_lt_of_pos _ (by decide)⟩
  obtain ⟨cs, z7, z11, f1, f2, f3⟩ := conds_for (n := n) (rooms := rooms) (rows := rows) (x0 := some (.int m)) (x3 := some (.str bk)) (x4 := some (.str vb)) (x5 := some (.int (m / 50))) (x6 := some (.lst (Ss ab))) (x8 := some (.str bt)) (x12 := none) (o := o) (a := st.length) hl hp (List.range (o % 3).toNat) [] (st ++ [.lst []]) none none (fun k hk => by rw [List.mem_range] at hk; omega) (by simp; omega) get_last (fun c hc => by simp at hc)
  rw [List.length_range] at f3
  simp at f3
  have s1 : (st ++ [Ob.lst []]).set st.length (.lst cs) = st ++ [Ob.lst cs] := by rw [set_at]; rfl
  rw [s1] at f1
  obtain ⟨es, y11, g1, g2, g3⟩ := effs_for (n := n) (rooms := rooms) (rows := rows) (x0 := some (.int m)) (x4 := some (.str vb)) (x5 := some (.int (m / 50))) (x6 := some (.lst (Ss ab))) (x7 := z7) (x8 := some (.str bt)) (x10 := some (.ref st.length)) (o := o) (a := st.length + 1) (book := bk) hl hp (List.range (1 + o / 3 % 3).toNat) [] ((st ++ [Ob.lst cs]) ++ [.lst []]) z11 (fun k hk => by rw [List.mem_range] at hk; omega) (by simp; omega) (by have := get_last (st := st ++ [Ob.lst cs]) (o := .lst []); rw [show (st ++ [Ob.lst cs]).length = st.length + 1 by simp] at this; exact this) (fun c hc => by simp at hc)
  rw [List.length_range] at g3
  simp only [List.length_nil, Nat.zero_add] at g3
  have s2 : ((st ++ [Ob.lst cs]) ++ [Ob.lst []]).set (st.length + 1) (.lst es) = (st ++ [Ob.lst cs]) ++ [Ob.lst es] := by
    have := set_at (st := st ++ [Ob.lst cs]) [Ob.lst []] (.lst es)
    rw [show (st ++ [Ob.lst cs]).length = st.length + 1 by simp] at this
    exact this
  rw [s2] at g1
  have t1 : (st ++ [Ob.lst cs, Ob.lst es])[st.length]? = some (.lst cs) := by rw [get_at]; rfl
  have t2 : (st ++ [Ob.lst cs, Ob.lst es])[st.length + 1]? = some (.lst es) := by rw [get_at_add]; rfl
  have u1 := tupl_ref t1 (by omega)
  have u2 := tupl_ref t2 (by omega)
  have tr1 : Tr 6 (.tup [.str bk, .str vb, .str bt, .tup cs, .tup es]) := .tup (fun y hy => by
      simp only [List.mem_cons, List.not_mem_nil, or_false] at hy
      rcases hy with rfl | rfl | rfl | rfl | rfl
      · exact .str _ _
      · exact .str _ _
      · exact .str _ _
      · exact .tup (fun z hz => (f2 z hz).tr.up (by decide)) (by omega)
      · exact .tup (fun z hz => (g2 z hz).tr.up (by decide)) (by omega)) (by simp)
  refine ⟨.tup [.str bk, .str vb, .str bt, .tup cs, .tup es], tr1, cc (ext := [.lst cs, .lst es]) rfl rfl B__law_rule ?_ (tr1.fz (by decide))⟩
  have r1 : rangeD 0 (o % 3).toNat = (List.range (o % 3).toNat).map fun (i : Nat) => D.int (i : Int) := rangeD_eq _
  have r2 : rangeD 0 (1 + o / 3 % 3).toNat = (List.range (1 + o / 3 % 3).toNat).map fun (i : Nat) => D.int (i : Int) := rangeD_eq _
  unfold P__law_rule
  rw [e0]
  refine run_seq (ρ1 := [some (.int m), some (.lst (Ss rooms)), some (.lst (Rs rows)), some (.str bk), none, none, none, none, none, none, none, none, none]) (st1 := st) (by simp_arith [d1, d1l, e1]) ?_
  refine run_seq (ρ1 := [some (.int m), some (.lst (Ss rooms)), some (.lst (Rs rows)), some (.str bk), some (.str vb), none, none, none, none, none, none, none, none]) (st1 := st) (by simp_arith [d2, d2l, e2]) ?_
  refine run_seq (ρ1 := [some (.int m), some (.lst (Ss rooms)), some (.lst (Rs rows)), some (.str bk), some (.str vb), some (.int (m / 50)), none, none, none, none, none, none, none]) (st1 := st) (by simp_arith []) ?_
  refine run_seq (run_asg e3) ?_
  refine run_seq (run_asg (e4 _ _ _ _ _ _)) ?_
  simp_arith [e5, q_for, q_for1, r1, mkL_t]
  rw [f1]
  simp_arith [q_for, q_for1, r2, mkL_t]
  rw [show st ++ [Ob.lst cs, Ob.lst []] = (st ++ [Ob.lst cs]) ++ [Ob.lst []] by simp, show (st ++ [Ob.lst cs]).length = st.length + 1 by simp, g1]
  rw [show st ++ [Ob.lst cs] ++ [Ob.lst es] = st ++ [Ob.lst cs, Ob.lst es] by simp]
  simp_arith [u1, u2]
end K20
namespace K20
open PySem L2 Mi
local macro_rules
  | `(tactic| simp_arith [$ts,*]) => `(tactic| simp (disch := first | assumption | omega | (simp only [List.length_cons, List.length_nil, List.length_map, List.length_append]; done) | (simp only [List.length_cons, List.length_nil, List.length_map, List.length_append]; omega)) only [↓reduceIte, r_seq, seq_nx, seq_rt, seq_no, seq_ex, seq_bk, seq_ct, OS_turn_nx, OS_turn_ct, OS_turn_rt, OS_turn_bk, turn_ex, O_bind_ok, O_bind_ex, O_bind_no, O_toS_ok, O_toS_ex, O_toS_no, O_strict_ok, r_var0, r_varS, r_C, r_nil, r_un, r_app, r_lst, r_tup, r_yes, r_nopart, r_snil, r_break, r_cont, r_retN, q_bin, q_bin2, q_cons, q_cons1, q_cons2, q_meth, q_meth1, q_tru, q_tru1, q_truO, q_test, q_test1, q_notT, q_notT1, q_andT, q_andTt, q_andTf, q_orT, q_orTt, q_orTf, q_ifE, q_ifT, q_iteT, q_iteF, q_andV, q_andV1, q_andOt, q_andOf, q_orV, q_orV1, q_orOt, q_orOf, q_notV, q_notV1, q_notO, q_chain, q_chain1, q_chain2, q_chain3t, q_chain3f, q_part, q_part1, q_sl, q_sl1, q_sl2, q_sl3, q_items, q_items1, q_srcO, q_enum, q_enum1, q_enumO, q_pnil, q_pair, q_pair1, q_pair2, q_pair3, q_disp, q_zip, q_zip1, q_zip2, zipS_tt, zipS_ll, q_range1, q_range11, q_range2, q_range21, q_range3, q_isi, q_isi1, q_isiO, q_isc, q_isc1, q_iscO, q_call, q_call1, q_attr, q_attr1, q_attrO, q_attrO2, q_mth, q_mth1, q_mthO, q_mth2, q_mth3, q_make, q_make1, q_asg, q_asg1, q_asgO, q_expr, q_expr1, q_ret, q_ret1, q_if, q_ift, q_iff, q_whilet, q_whilef, q_atr, q_atr1, q_atr2, q_aa1, q_aa2, q_aa3, q_aa4, q_step, q_step1, q_step2, insAt_ref, q_insO, setAt_ref, q_setO, isNonO_non, putD, bindT, setD, wipeD, List.map_cons, List.map_nil, List.replicate, List.set_cons_zero, List.set_cons_succ, List.cons_append, List.nil_append, List.append_nil, List.length_cons, List.length_nil, Nat.reduceAdd, Nat.reduceSub, Nat.reduceEqDiff, Nat.reduceLT, Int.reduceLT, Int.reduceLE, Int.reduceEq, Nat.zero_add, Nat.add_zero, e_ints, e_bls, e_strs, sgnT, sgnF, l_ints, a_ints, s_ints, tru_bl, len_str, ty_str, ty_int, ty_bl, ty_non, ty_lst, ty_tup, ty_frz, ty_dct, tyOf_ref, lt_ii, gt_ii, ge_ii, neg_i, is_non, isNon_non, isNon_str, isNon_lst, isNon_tup, isNon_ref, isNon_int, lstOf_ref, lstOf_lst, lstOf_frz, seqOf_tup, seqOf_frz, seqOf_lst, seqOf_ref, listOf_frz, listOf_lst, listOf_ref, listG_frz, listG_lst, listG_ref, items_lst, items_frz, items_tup, items_str, items_ref, rdOf_ref, rdOf_lst, rdOf_tup, rdOf_frz, rdOf_str, rdOf_dct, dctOf_ref, dctOf_lst, dctOf_tup, dctOf_frz, dctOf_str, dctOf_dct, len_lst, len_tup, len_frz, len_ref, list_any, tuple_tup, tuple_lst, tuple_frz, tuple_ref, int_int, int_bl, mkL_t, mkL_f, mkT_ok, append_ref, clear_ref, if_sz, tyD_ref, tyD_str, tyD_lst, add_lr, add_rl, add_rr, add_ll, add_tt, add_ss, mod_ii, div_ii, mul_ii, List.lookup_cons, beq_self_eq_true, Bool.and_true, Bool.true_and, Bool.or_true, Bool.true_or, Bool.false_or, Bool.or_false, Bool.false_and, Bool.and_false, Bool.not_true, Bool.not_false, Bool.false_eq_true, Bool.true_eq_false, Option.isSome_some, Option.isSome_none, Option.map_some, Option.map_none, decide_true, decide_false, if_true, if_false, get_at, get_at_add, set_at, set_at_add, List.append_assoc, List.getElem?_cons_zero, List.getElem?_cons_succ, in_tup, in_lst, and_true, true_and, and_self, $ts,*])
variable {n : Nat} {st : Store}
/-! ### the tale -/
inductive Wf (rooms : List Str) : List Row → Prop
  | nil : Wf rooms []
  | snoc {rows : List Row} {wh trs : List Str} (h : Wf rooms rows) (wo : WhOk rooms rows wh) (tk : trs ∈ KD) (dr : ("door" : Str) ∈ trs → wh = [("nowhere" : Str)]) : Wf rooms (rows ++ [⟨NM.getD rows.length "", NM.getD rows.length "", [], wh, trs⟩])
theorem things_for {rooms : List Str} {cells : List Int} {a : Nat} {x0 x1 x6 x7 x8 x9 x10 x11 x12 x13 x14 : Option D} (hc : 0 < cells.length) (hp : 0 < rooms.length) : ∀ (j k : Nat) (rows : List Row) (st : Store) (x5 : Option D), k + j ≤ 9 → st[a]? = some (.lst (Rs rows)) → rows.length = k → Wf rooms rows →
    ∃ rows' z5, forGo [] (.one 5) (sExpr (mMeth "list" dAppend (mVar 4) (mCons (mCall 4 (cF (n + 2) i__law_thing) (mCons (mVar 5) (mCons (mCall 2 (cF (n + 2) i__law_mixed) (mCons (mBin dIx (mVar 2) (mBin dMod (mVar 5) (mApp dLen (mCons (mVar 2) mNil)))) (mCons (mBin (dAdd false) (mC (.int 10)) (mVar 5)) mNil))) (mCons (mVar 3) (mCons (mVar 4) mNil))))) mNil))) ((List.range' k j).map fun (i : Nat) => D.int (i : Int)) [x0, x1, some (.lst (Is cells)), some (.lst (Ss rooms)), some (.ref a), x5, x6, x7, x8, x9, x10, x11, x12, x13, x14] st
      = .nx [x0, x1, some (.lst (Is cells)), some (.lst (Ss rooms)), some (.ref a), z5, x6, x7, x8, x9, x10, x11, x12, x13, x14] (st.set a (.lst (Rs rows'))) ∧ Wf rooms rows' ∧ rows'.length = k + j
  | 0, k, rows, st, x5, _, h, hr, wf => ⟨rows, x5, by rw [set_same h]; exact for_nil, wf, hr⟩
  | j + 1, k, rows, st, x5, hk, h, hr, wf => by
    have hi : 0 ≤ (k : Int) % (cells.length : Int) ∧ (k : Int) % (cells.length : Int) < (cells.length : Int) := ⟨Int.emod_nonneg _ (by omega), Int.emod_lt_of_pos _ (by omega)⟩
    have e1 := scr_ix (st := st) (d := .lst (Is cells)) (ns := cells) (.inr rfl) hi.1 hi.2
    have e2 := scr_len (st := st) (d := .lst (Is cells)) (ns := cells) (.inr rfl)
    generalize cells.getD ((k : Int) % (cells.length : Int)).toNat 0 = c at *
    have e3 := mixed_run (n := n + 1) (st := st) (c := c) (k := 10 + (k : Int)) (by omega) (by omega)
    obtain ⟨wh, trs, h1, h2, h3, e4⟩ := thing_run (n := n + 1) (st := st) (m := dr c (10 + (k : Int))) (k := k) (rooms := rooms) (by omega) h (by omega) hp
    have wf' := wf.snoc h1 h2 h3
    rw [hr] at wf'
    have e5 : Rs rows ++ [Row.d ⟨NM.getD k "", NM.getD k "", [], wh, trs⟩] = Rs (rows ++ [⟨NM.getD k "", NM.getD k "", [], wh, trs⟩]) := by simp [Rs]
    generalize (⟨NM.getD k "", NM.getD k "", [], wh, trs⟩ : Row) = r at *
    have e6 : ("list" == "list") = true := rfl
    have l6 : (Rs rows).length < 16777216 := by unfold Rs; rw [List.length_map]; omega
    obtain ⟨rows', z5, g1, g2, g3⟩ := things_for hc hp j (k + 1) (rows ++ [r]) (st.set a (.lst (Rs (rows ++ [r])))) (some (.int (k : Int))) (by omega) (List.getElem?_set_self (lt_of_get h)) (by simp; omega) wf'
    refine ⟨rows', z5, ?_, g2, by omega⟩
    rw [List.set_set] at g1
    rw [List.range'_succ, List.map_cons, for_one]
    simp_arith [e1, e2, e3, e4, e6, h, l6, e5]
    exact g1
def RM : List Str := ["hall", "attic", "cave", "yard"]
inductive Rooms : List Str → Prop
  | one : Rooms ["hall"]
  | two : Rooms ["hall", "attic"]
  | three : Rooms ["hall", "attic", "cave"]
  | four : Rooms ["hall", "attic", "cave", "yard"]
theorem Rooms.pos {l : List Str} (h : Rooms l) : 0 < l.length ∧ l.length ≤ 4 := by cases h <;> simp
theorem Rooms.nd {l : List Str} (h : Rooms l) : l.Nodup := by cases h <;> decide +kernel
theorem rooms_run (m : Int) : ∃ l, Rooms l ∧ ∀ st : Store, dSl false (.lst (Ss RM)) none (some (1 + m % 4)) st = .ok (.lst (Ss l)) st := by
  have hm : m % 4 = 0 ∨ m % 4 = 1 ∨ m % 4 = 2 ∨ m % 4 = 3 := by omega
  rcases hm with e | e | e | e <;> rw [e]
  · exact ⟨_, .one, fun _ => rfl⟩
  · exact ⟨_, .two, fun _ => rfl⟩
  · exact ⟨_, .three, fun _ => rfl⟩
  · exact ⟨_, .four, fun _ => rfl⟩
def Eu : List Str := ["east", "up", "south"]
def Wd : List Str := ["west", "down", "north"]
theorem cut_strs (l : List Str) (lo hi : Option Int) : ∃ ms : List Str, cutD (Ss l) lo hi = Ss ms ∧ ms.length ≤ l.length := by
  refine ⟨(l.drop (HT.sIx (Ss l).length 0 lo)).take (HT.sIx (Ss l).length (Ss l).length hi - HT.sIx (Ss l).length 0 lo), ?_, ?_⟩
  · unfold cutD
    show _ = List.map D.str _
    rw [List.map_take, List.map_drop]
  · rw [List.length_take, List.length_drop]; omega
theorem door_run {l : List Str} (hl : l.length ≤ 1000) (lo hi : Option Int) : ∃ (ms : List Str) (x : Str), dSl false (.lst (Ss l)) lo hi st = .ok (.lst (Ss ms)) st ∧ ms.length ≤ 1000 ∧ dIx (.lst (Ss (ms ++ [("" : Str)]))) (.int 0) st = .ok (.str x) st := by
  obtain ⟨ms, h1, h2⟩ := cut_strs l lo hi
  refine ⟨ms, (ms ++ [("" : Str)]).getD 0 "", ?_, by omega, ?_⟩
  · show mkL false (cutD (Ss l) lo hi) st = _
    rw [h1, mkL_f (by rw [List.length_map]; omega)]
  · rw [ix_lst (by decide) (by rw [List.length_map]; simp), show ((0 : Int).toNat) = 0 from rfl, getD_strs (by simp)]
theorem ways_for {rooms doors : List Str} {b : Nat} {x0 x1 x2 x4 x7 x10 x11 x12 x13 x14 : Option D} (hd : doors.length ≤ 100) : ∀ (j k : Nat) (ways : List Way) (st : Store) (x5 x9 : Option D), k + j ≤ 3 → k + j < rooms.length → st[b]? = some (.lst (Ws ways)) → ways.length ≤ 2 * k →
    ∃ ways' z5 z9, forGo [] (.one 5) (sSeq (sAsg (mBin dIx (mBin (dAdd false) (mSl false (mVar 6) (mPart (mVar 5)) (mPart (mBin (dAdd false) (mVar 5) (mC (.int 1))))) (mLst false (mCons (mC (.str "")) mNil))) (mC (.int 0))) (.one 9))
    (sSeq (sExpr (mMeth "list" dAppend (mVar 8) (mCons (mTup (mCons (mBin dIx (mVar 3) (mVar 5)) (mCons (mBin dIx (mLst false (mCons (mC (.str "east")) (mCons (mC (.str "up")) (mCons (mC (.str "south")) mNil)))) (mVar 5)) (mCons (mBin dIx (mVar 3) (mBin (dAdd false) (mVar 5) (mC (.int 1)))) (mCons (mVar 9) mNil))))) mNil)))
    (sExpr (mMeth "list" dAppend (mVar 8) (mCons (mTup (mCons (mBin dIx (mVar 3) (mBin (dAdd false) (mVar 5) (mC (.int 1)))) (mCons (mBin dIx (mLst false (mCons (mC (.str "west")) (mCons (mC (.str "down")) (mCons (mC (.str "north")) mNil)))) (mVar 5)) (mCons (mBin dIx (mVar 3) (mVar 5)) (mCons (mVar 9) mNil))))) mNil))))) ((List.range' k j).map fun (i : Nat) => D.int (i : Int)) [x0, x1, x2, some (.lst (Ss rooms)), x4, x5, some (.lst (Ss doors)), x7, some (.ref b), x9, x10, x11, x12, x13, x14] st
      = .nx [x0, x1, x2, some (.lst (Ss rooms)), x4, z5, some (.lst (Ss doors)), x7, some (.ref b), z9, x10, x11, x12, x13, x14] (st.set b (.lst (Ws ways'))) ∧ ways'.length ≤ 2 * (k + j)
  | 0, k, ways, st, x5, x9, _, _, h, hl => ⟨ways, x5, x9, by rw [set_same h]; exact for_nil, hl⟩
  | j + 1, k, ways, st, x5, x9, hk, hk2, h, hl => by
    obtain ⟨ms, x, e1, l1, e2⟩ := door_run (st := st) (l := doors) (by omega) (some (k : Int)) (some ((k : Int) + 1))
    have e3 : Ss ms ++ [D.str ""] = Ss (ms ++ [("" : Str)]) := by simp
    have l3 : (Ss (ms ++ [("" : Str)])).length ≤ 16777216 := by rw [List.length_map]; simp; omega
    have e4 : ∀ st : Store, dIx (.lst (Ss rooms)) (.int (k : Int)) st = .ok (.str (rooms.getD k "")) st := fun st => by
      rw [ix_lst (by omega) (by rw [List.length_map]; omega), getD_strs (by omega)]; rfl
    have e5 : ∀ st : Store, dIx (.lst (Ss rooms)) (.int ((k : Int) + 1)) st = .ok (.str (rooms.getD (k + 1) "")) st := fun st => by
      rw [ix_lst (by omega) (by rw [List.length_map]; omega), getD_strs (by omega)]; rfl
    have e6 : ∀ st : Store, dIx (.lst [.str "east", .str "up", .str "south"]) (.int (k : Int)) st = .ok (.str (Eu.getD k "")) st := fun st => by
      rw [show [D.str "east", .str "up", .str "south"] = Ss Eu from rfl, ix_lst (by omega) (by show (k : Int) < 3; omega), getD_strs (by show _ < 3; omega)]; rfl
    have e7 : ∀ st : Store, dIx (.lst [.str "west", .str "down", .str "north"]) (.int (k : Int)) st = .ok (.str (Wd.getD k "")) st := fun st => by
      rw [show [D.str "west", .str "down", .str "north"] = Ss Wd from rfl, ix_lst (by omega) (by show (k : Int) < 3; omega), getD_strs (by show _ < 3; omega)]; rfl
    generalize rooms.getD k "" = ra at *
    generalize rooms.getD (k + 1) "" = rb at *
    generalize Eu.getD k "" = ea at *
    generalize Wd.getD k "" = wa at *
    have e8 : ("list" == "list") = true := rfl
    have e9 : ∀ (w : List Way) (p q r s : Str), Ws w ++ [.tup [.str p, .str q, .str r, .str s]] = Ws (w ++ [⟨p, q, r, s⟩]) := fun w p q r s => by simp [Ws, Way.d]
    have l9 : ∀ w : List Way, (Ws w).length = w.length := fun w => by simp [Ws]
    have h2 : (st.set b (.lst (Ws (ways ++ [⟨ra, ea, rb, x⟩]))))[b]? = some (.lst (Ws (ways ++ [⟨ra, ea, rb, x⟩]))) := List.getElem?_set_self (lt_of_get h)
    have m1 : (Ws ways).length < 16777216 := by rw [l9]; omega
    have m2 : (Ws (ways ++ [⟨ra, ea, rb, x⟩])).length < 16777216 := by rw [l9]; simp; omega
    obtain ⟨ways', z5, z9, g1, g2⟩ := ways_for (rooms := rooms) hd j (k + 1) (ways ++ [⟨ra, ea, rb, x⟩, ⟨rb, wa, ra, x⟩]) (st.set b (.lst (Ws (ways ++ [⟨ra, ea, rb, x⟩, ⟨rb, wa, ra, x⟩])))) (some (.int (k : Int))) (some (.str x)) (by omega) (by omega) (List.getElem?_set_self (lt_of_get h)) (by simp; omega)
    refine ⟨ways', z5, z9, ?_, by omega⟩
    rw [List.set_set] at g1
    rw [List.range'_succ, List.map_cons, for_one]
    simp_arith [e1, e3, l3, e2, e4, e5, e6, e7, e8, h, m1, e9, h2, m2, List.set_set]
    exact g1
end K20
namespace K20
open PySem L2 Mi
local macro_rules
  | `(tactic| simp_arith [$ts,*]) => `(tactic| simp (disch := first | assumption | omega | (simp only [List.length_cons, List.length_nil, List.length_map, List.length_append]; done) | (simp only [List.length_cons, List.length_nil, List.length_map, List.length_append]; omega)) only [↓reduceIte, r_seq, seq_nx, seq_rt, seq_no, seq_ex, seq_bk, seq_ct, OS_turn_nx, OS_turn_ct, OS_turn_rt, OS_turn_bk, turn_ex, O_bind_ok, O_bind_ex, O_bind_no, O_toS_ok, O_toS_ex, O_toS_no, O_strict_ok, r_var0, r_varS, r_C, r_nil, r_un, r_app, r_lst, r_tup, r_yes, r_nopart, r_snil, r_break, r_cont, r_retN, q_bin, q_bin2, q_cons, q_cons1, q_cons2, q_meth, q_meth1, q_tru, q_tru1, q_truO, q_test, q_test1, q_notT, q_notT1, q_andT, q_andTt, q_andTf, q_orT, q_orTt, q_orTf, q_ifE, q_ifT, q_iteT, q_iteF, q_andV, q_andV1, q_andOt, q_andOf, q_orV, q_orV1, q_orOt, q_orOf, q_notV, q_notV1, q_notO, q_chain, q_chain1, q_chain2, q_chain3t, q_chain3f, q_part, q_part1, q_sl, q_sl1, q_sl2, q_sl3, q_items, q_items1, q_srcO, q_enum, q_enum1, q_enumO, q_pnil, q_pair, q_pair1, q_pair2, q_pair3, q_disp, q_zip, q_zip1, q_zip2, zipS_tt, zipS_ll, q_range1, q_range11, q_range2, q_range21, q_range3, q_isi, q_isi1, q_isiO, q_isc, q_isc1, q_iscO, q_call, q_call1, q_attr, q_attr1, q_attrO, q_attrO2, q_mth, q_mth1, q_mthO, q_mth2, q_mth3, q_make, q_make1, q_asg, q_asg1, q_asgO, q_expr, q_expr1, q_ret, q_ret1, q_if, q_ift, q_iff, q_whilet, q_whilef, q_atr, q_atr1, q_atr2, q_aa1, q_aa2, q_aa3, q_aa4, q_step, q_step1, q_step2, insAt_ref, q_insO, setAt_ref, q_setO, isNonO_non, putD, bindT, setD, wipeD, List.map_cons, List.map_nil, List.replicate, List.set_cons_zero, List.set_cons_succ, List.cons_append, List.nil_append, List.append_nil, List.length_cons, List.length_nil, Nat.reduceAdd, Nat.reduceSub, Nat.reduceEqDiff, Nat.reduceLT, Int.reduceLT, Int.reduceLE, Int.reduceEq, Nat.zero_add, Nat.add_zero, e_ints, e_bls, e_strs, sgnT, sgnF, l_ints, a_ints, s_ints, tru_bl, len_str, ty_str, ty_int, ty_bl, ty_non, ty_lst, ty_tup, ty_frz, ty_dct, tyOf_ref, lt_ii, gt_ii, ge_ii, neg_i, is_non, isNon_non, isNon_str, isNon_lst, isNon_tup, isNon_ref, isNon_int, lstOf_ref, lstOf_lst, lstOf_frz, seqOf_tup, seqOf_frz, seqOf_lst, seqOf_ref, listOf_frz, listOf_lst, listOf_ref, listG_frz, listG_lst, listG_ref, items_lst, items_frz, items_tup, items_str, items_ref, rdOf_ref, rdOf_lst, rdOf_tup, rdOf_frz, rdOf_str, rdOf_dct, dctOf_ref, dctOf_lst, dctOf_tup, dctOf_frz, dctOf_str, dctOf_dct, len_lst, len_tup, len_frz, len_ref, list_any, tuple_tup, tuple_lst, tuple_frz, tuple_ref, int_int, int_bl, mkL_t, mkL_f, mkT_ok, append_ref, clear_ref, if_sz, tyD_ref, tyD_str, tyD_lst, add_lr, add_rl, add_rr, add_ll, add_tt, add_ss, mod_ii, div_ii, mul_ii, List.lookup_cons, beq_self_eq_true, Bool.and_true, Bool.true_and, Bool.or_true, Bool.true_or, Bool.false_or, Bool.or_false, Bool.false_and, Bool.and_false, Bool.not_true, Bool.not_false, Bool.false_eq_true, Bool.true_eq_false, Option.isSome_some, Option.isSome_none, Option.map_some, Option.map_none, decide_true, decide_false, if_true, if_false, get_at, get_at_add, set_at, set_at_add, List.append_assoc, List.getElem?_cons_zero, List.getElem?_cons_succ, in_tup, in_lst, and_true, true_and, and_self, $ts,*])
variable {n : Nat} {st : Store}
/-- doors that no way has are none -/
def fx (used : List Str) (r : Row) : Row := if ("door" : Str) ∈ r.trs ∧ r.name ∉ used then { r with trs := [] } else r
theorem OS_turn {o : OS} {ρ : Rho} {st' : Store} (h : o = .nx ρ st') (f : Rho → Store → OS) : o.turn f = f ρ st' := by rw [h]; rfl
theorem mul_i5 {i : Int} (h0 : 0 ≤ i) (h1 : i ≤ 1000) : dMul false (.int i) (.int 5) st = .ok (.int (i * 5)) st := mul_ii (by omega)
theorem rule_step {C : Nat → Fn} {rooms : List Str} {rows : List Row} {cells : List Int} {a : Nat} {x0 x1 x6 x7 x8 x9 x10 x11 x13 x14 : Option D} {i c : Int} {d : D} {us : List D} (hc : 0 < cells.length) (b0 : 0 ≤ i) (b1 : i ≤ 1000) (e1 : dIx (.lst (Is cells)) (.int ((i * 5 + 3) % (cells.length : Int))) st = .ok (.int c) st) (e3 : C i__law_mixed [.int c, .int (30 + i)] st = .ok (.int (dr c (30 + i))) st) (e4 : C i__law_rule [.int (dr c (30 + i)), .lst (Ss rooms), .lst (Rs rows)] st = .ok d st) (h : st[a]? = some (.lst us)) (l6 : us.length < 16777216) :
    (sExpr (mMeth "list" dAppend (mVar 12) (mCons (mCall 3 (C i__law_rule) (mCons (mCall 2 (C i__law_mixed) (mCons (mBin dIx (mVar 2) (mBin dMod (mBin (dAdd false) (mBin (dMul false) (mVar 5) (mC (.int 5))) (mC (.int 3))) (mApp dLen (mCons (mVar 2) mNil)))) (mCons (mBin (dAdd false) (mC (.int 30)) (mVar 5)) mNil))) (mCons (mVar 3) (mCons (mVar 4) mNil)))) mNil))) [x0, x1, some (.lst (Is cells)), some (.lst (Ss rooms)), some (.lst (Rs rows)), some (.int i), x6, x7, x8, x9, x10, x11, some (.ref a), x13, x14] st = .nx [x0, x1, some (.lst (Is cells)), some (.lst (Ss rooms)), some (.lst (Rs rows)), some (.int i), x6, x7, x8, x9, x10, x11, some (.ref a), x13, x14] (st.set a (.lst (us ++ [d]))) := by
  have e2 := scr_len (st := st) (d := .lst (Is cells)) (ns := cells) (.inr rfl)
  have e0 := mul_i5 (st := st) b0 b1
  have e6 : ("list" == "list") = true := rfl
  simp_arith [e0, e1, e2, e3, e4, e6, h, l6]
theorem rules_for {C : Nat → Fn} {rooms : List Str} {rows : List Row} {cells : List Int} {a : Nat} {x0 x1 x6 x7 x8 x9 x10 x11 x13 x14 : Option D} (hl : rows.length ≤ 12) (hr : 0 < rows.length) (hc : 0 < cells.length) (hp : 0 < rooms.length) (hp2 : rooms.length ≤ 10) (hM : ∀ (c k : Int) (st : Store), 0 ≤ k → k ≤ 1000000 → C i__law_mixed [.int c, .int k] st = .ok (.int (dr c k)) st) (hR : ∀ (m : Int) (st : Store), ∃ d, Tr 6 d ∧ C i__law_rule [.int m, .lst (Ss rooms), .lst (Rs rows)] st = .ok d st) : ∀ (j k : Nat) (us : List D) (st : Store) (x5 : Option D), k + j ≤ 100 → us.length ≤ k → st[a]? = some (.lst us) → (∀ u ∈ us, Tr 6 u) →
    ∃ us' z5, forGo [] (.one 5) (sExpr (mMeth "list" dAppend (mVar 12) (mCons (mCall 3 (C i__law_rule) (mCons (mCall 2 (C i__law_mixed) (mCons (mBin dIx (mVar 2) (mBin dMod (mBin (dAdd false) (mBin (dMul false) (mVar 5) (mC (.int 5))) (mC (.int 3))) (mApp dLen (mCons (mVar 2) mNil)))) (mCons (mBin (dAdd false) (mC (.int 30)) (mVar 5)) mNil))) (mCons (mVar 3) (mCons (mVar 4) mNil)))) mNil))) ((List.range' k j).map fun (i : Nat) => D.int (i : Int)) [x0, x1, some (.lst (Is cells)), some (.lst (Ss rooms)), some (.lst (Rs rows)), x5, x6, x7, x8, x9, x10, x11, some (.ref a), x13, x14] st
      = .nx [x0, x1, some (.lst (Is cells)), some (.lst (Ss rooms)), some (.lst (Rs rows)), z5, x6, x7, x8, x9, x10, x11, some (.ref a), x13, x14] (st.set a (.lst us')) ∧ (∀ u ∈ us', Tr 6 u) ∧ us'.length ≤ k + j
  | 0, k, us, st, x5, _, hu, h, ht => ⟨us, x5, by rw [set_same h]; exact for_nil, ht, hu⟩
  | j + 1, k, us, st, x5, hk, hu, h, ht => by
    have hi : 0 ≤ ((k : Int) * 5 + 3) % (cells.length : Int) ∧ ((k : Int) * 5 + 3) % (cells.length : Int) < (cells.length : Int) := ⟨Int.emod_nonneg _ (by omega), Int.emod_lt_of_pos _ (by omega)⟩
    have e1 := scr_ix (st := st) (d := .lst (Is cells)) (ns := cells) (.inr rfl) hi.1 hi.2
    have e2 := scr_len (st := st) (d := .lst (Is cells)) (ns := cells) (.inr rfl)
    generalize cells.getD (((k : Int) * 5 + 3) % (cells.length : Int)).toNat 0 = c at *
    have e3 := hM c (30 + (k : Int)) st (by omega) (by omega)
    obtain ⟨d, hd, e4⟩ := hR (dr c (30 + (k : Int))) st
    have ht' : ∀ u ∈ us ++ [d], Tr 6 u := fun u hm => by
      rcases List.mem_append.mp hm with hm | hm
      · exact ht u hm
      · have : u = d := by simpa using hm
        rw [this]; exact hd
    have l6 : us.length < 16777216 := by omega
    obtain ⟨us', z5, g1, g2, g3⟩ := rules_for hl hr hc hp hp2 hM hR j (k + 1) (us ++ [d]) (st.set a (.lst (us ++ [d]))) (some (.int (k : Int))) (by omega) (by simp; omega) (List.getElem?_set_self (lt_of_get h)) ht'
    refine ⟨us', z5, ?_, g2, by omega⟩
    rw [List.set_set] at g1
    rw [List.range'_succ, List.map_cons, for_one]
    have q := rule_step (C := C) (x0 := x0) (x1 := x1) (x6 := x6) (x7 := x7) (x8 := x8) (x9 := x9) (x10 := x10) (x11 := x11) (x13 := x13) (x14 := x14) (i := (k : Int)) hc (by omega) (by omega) e1 e3 e4 h l6
    exact (OS_turn q _).trans g1
end K20
namespace K20
open PySem L2 Mi
local macro_rules
  | `(tactic| simp_arith [$ts,*]) => `(tactic| simp (disch := first | assumption | omega | (simp only [List.length_cons, List.length_nil, List.length_map, List.length_append]; done) | (simp only [List.length_cons, List.length_nil, List.length_map, List.length_append]; omega)) only [↓reduceIte, r_seq, seq_nx, seq_rt, seq_no, seq_ex, seq_bk, seq_ct, OS_turn_nx, OS_turn_ct, OS_turn_rt, OS_turn_bk, turn_ex, O_bind_ok, O_bind_ex, O_bind_no, O_toS_ok, O_toS_ex, O_toS_no, O_strict_ok, r_var0, r_varS, r_C, r_nil, r_un, r_app, r_lst, r_tup, r_yes, r_nopart, r_snil, r_break, r_cont, r_retN, q_bin, q_bin2, q_cons, q_cons1, q_cons2, q_meth, q_meth1, q_tru, q_tru1, q_truO, q_test, q_test1, q_notT, q_notT1, q_andT, q_andTt, q_andTf, q_orT, q_orTt, q_orTf, q_ifE, q_ifT, q_iteT, q_iteF, q_andV, q_andV1, q_andOt, q_andOf, q_orV, q_orV1, q_orOt, q_orOf, q_notV, q_notV1, q_notO, q_chain, q_chain1, q_chain2, q_chain3t, q_chain3f, q_part, q_part1, q_sl, q_sl1, q_sl2, q_sl3, q_items, q_items1, q_srcO, q_enum, q_enum1, q_enumO, q_pnil, q_pair, q_pair1, q_pair2, q_pair3, q_disp, q_zip, q_zip1, q_zip2, zipS_tt, zipS_ll, q_range1, q_range11, q_range2, q_range21, q_range3, q_isi, q_isi1, q_isiO, q_isc, q_isc1, q_iscO, q_call, q_call1, q_attr, q_attr1, q_attrO, q_attrO2, q_mth, q_mth1, q_mthO, q_mth2, q_mth3, q_make, q_make1, q_asg, q_asg1, q_asgO, q_expr, q_expr1, q_ret, q_ret1, q_if, q_ift, q_iff, q_whilet, q_whilef, q_atr, q_atr1, q_atr2, q_aa1, q_aa2, q_aa3, q_aa4, q_step, q_step1, q_step2, insAt_ref, q_insO, setAt_ref, q_setO, isNonO_non, putD, bindT, setD, wipeD, List.map_cons, List.map_nil, List.replicate, List.set_cons_zero, List.set_cons_succ, List.cons_append, List.nil_append, List.append_nil, List.length_cons, List.length_nil, Nat.reduceAdd, Nat.reduceSub, Nat.reduceEqDiff, Nat.reduceLT, Int.reduceLT, Int.reduceLE, Int.reduceEq, Nat.zero_add, Nat.add_zero, e_ints, e_bls, e_strs, sgnT, sgnF, l_ints, a_ints, s_ints, tru_bl, len_str, ty_str, ty_int, ty_bl, ty_non, ty_lst, ty_tup, ty_frz, ty_dct, tyOf_ref, lt_ii, gt_ii, ge_ii, neg_i, is_non, isNon_non, isNon_str, isNon_lst, isNon_tup, isNon_ref, isNon_int, lstOf_ref, lstOf_lst, lstOf_frz, seqOf_tup, seqOf_frz, seqOf_lst, seqOf_ref, listOf_frz, listOf_lst, listOf_ref, listG_frz, listG_lst, listG_ref, items_lst, items_frz, items_tup, items_str, items_ref, rdOf_ref, rdOf_lst, rdOf_tup, rdOf_frz, rdOf_str, rdOf_dct, dctOf_ref, dctOf_lst, dctOf_tup, dctOf_frz, dctOf_str, dctOf_dct, len_lst, len_tup, len_frz, len_ref, list_any, tuple_tup, tuple_lst, tuple_frz, tuple_ref, int_int, int_bl, mkL_t, mkL_f, mkT_ok, append_ref, clear_ref, if_sz, tyD_ref, tyD_str, tyD_lst, add_lr, add_rl, add_rr, add_ll, add_tt, add_ss, mod_ii, div_ii, mul_ii, List.lookup_cons, beq_self_eq_true, Bool.and_true, Bool.true_and, Bool.or_true, Bool.true_or, Bool.false_or, Bool.or_false, Bool.false_and, Bool.and_false, Bool.not_true, Bool.not_false, Bool.false_eq_true, Bool.true_eq_false, Option.isSome_some, Option.isSome_none, Option.map_some, Option.map_none, decide_true, decide_false, if_true, if_false, get_at, get_at_add, set_at, set_at_add, List.append_assoc, List.getElem?_cons_zero, List.getElem?_cons_succ, in_tup, in_lst, and_true, true_and, and_self, $ts,*])
variable {n : Nat} {st : Store}
def STS : List (Str × Int) := [("fed", 0), ("mood", 1)]
def plOf (w : Int) (rooms : List Str) : List (Str × Bool) := rooms.zipIdx.map fun p => (p.1, decide (dr w (40 + (p.2 : Int)) % 5 = 0))
def tlD (pl : List (Str × Bool)) (rows : List Row) (ways : List Way) (us : List D) : D := .lst [.lst (Ps pl), .lst (Rs rows), .lst (Ws ways), .lst (STS.map Sd), .lst us, .lst [], .lst [], .lst []]
structure Tale (rooms : List Str) (pl : List (Str × Bool)) (rows : List Row) (ways : List Way) (us : List D) : Prop where
  rm : Rooms rooms
  pl : pl.map (·.1) = rooms
  rw : ∃ rows0 used, Wf rooms rows0 ∧ rows = rows0.map (fx used) ∧ 2 ≤ rows0.length ∧ rows0.length ≤ 9
  wy : ways.length ≤ 6
  lu : us.length ≤ 12
  us : ∀ u ∈ us, Tr 6 u
theorem Rooms.pls {rooms : List Str} (h : Rooms rooms) (w : Int) : (plOf w rooms).map (·.1) = rooms := by cases h <;> rfl
theorem Rooms.enum {rooms : List Str} (h : Rooms rooms) : enumD (Ss rooms) = rooms.zipIdx.map fun p => D.tup [.int (p.2 : Int), .str p.1] := by cases h <;> rfl
theorem fx_d (used : List Str) (rows : List Row) : Rs (rows.map (fx used)) = rows.map fun r => (fx used r).d := by unfold Rs; rw [List.map_map]; rfl
theorem Wf.rok {rooms : List Str} {rows : List Row} (h : Wf rooms rows) : ∀ r ∈ rows, r.ok := by
  induction h with
  | nil => intro r hr; simp at hr
  | @snoc rows wh trs h wo tk dr ih =>
    intro r hr
    rcases List.mem_append.mp hr with hr | hr
    · exact ih r hr
    · have : r = ⟨NM.getD rows.length "", NM.getD rows.length "", [], wh, trs⟩ := by simpa using hr
      rw [this]
      exact ⟨by simp, wo.le, by have := kd_len trs tk; show trs.length ≤ 10; omega⟩
theorem fx_ok {used : List Str} {r : Row} (h : r.ok) : (fx used r).ok := by
  unfold fx
  split
  · exact ⟨h.la, h.lw, by simp⟩
  · exact h
theorem Tale.rok {rooms : List Str} {pl : List (Str × Bool)} {rows : List Row} {ways : List Way} {us : List D} (T : Tale rooms pl rows ways us) : ∀ r ∈ rows, r.ok := by
  obtain ⟨rows0, used, h1, rfl, _, _⟩ := T.rw
  intro r hr
  obtain ⟨r0, h0, rfl⟩ := List.mem_map.mp hr
  exact fx_ok (h1.rok r0 h0)
theorem tale_run {ns : List Int} (hn : ns.length ≤ 63) : ∃ rooms pl rows ways us, Tale rooms pl rows ways us ∧ cF (n + 5) i__law_tale [.frz (Is ns)] st = .ok (tlD pl rows ways us) st := by
  have e0 : startD N__law_tale.length [.frz (Is ns)] = [some (.frz (Is ns)), none, none, none, none, none, none, none, none, none, none, none, none, none, none] := rfl
  have e1 : dSum [.frz (Is ns)] st = .ok (.int ns.sum) st := by
    have : intsD (Is ns) = some ns := by
      unfold Is
      clear hn e0
      induction ns with
      | nil => rfl
      | cons x r ih => show (intsD (r.map D.int)).map _ = _; rw [ih]; rfl
    show (match intsD (Is ns) with
      | some ns => O.ok (D.int ns.sum) st
      | none => .no) = _
    rw [this]
  have e2 := scr_len (st := st) (d := .frz (Is ns)) (ns := ns) (.inl rfl)
  generalize hw : ns.sum + (ns.length : Int) = w at *
  obtain ⟨ms, e3, l3⟩ := sl_frz (st := st) (ns := ns) (by omega) none (some 200)
  have e4 : Is ms ++ [D.int w] = Is (ms ++ [w]) := by simp [Is]
  have l4 : (Is (ms ++ [w])).length ≤ 16777216 := by unfold Is; simp; omega
  have lc : 0 < (ms ++ [w]).length := by simp
  generalize ms ++ [w] = cells at *
  have e5 := mixed_run (n := n + 3) (st := st) (c := w) (k := 1) (by decide) (by decide)
  obtain ⟨rooms, hR, e6⟩ := rooms_run (dr w 1)
  have d6 : [D.str "hall", .str "attic", .str "cave", .str "yard"] = Ss RM := rfl
  have l6 : (Ss RM).length ≤ 16777216 := by decide
  have hrp := hR.pos
  have e7 := fun st' : Store => mixed_run (n := n + 3) (st := st') (c := w) (k := 2) (by decide) (by decide)
  have h8 : 0 ≤ dr w 2 % 8 ∧ dr w 2 % 8 < 8 := ⟨Int.emod_nonneg _ (by decide), Int.emod_lt_of_pos _ (by decide)⟩
  obtain ⟨rows0, z5, f1, f2, f3⟩ := things_for (n := n + 2) (rooms := rooms) (cells := cells) (a := st.length) (x0 := some (.frz (Is ns))) (x1 := some (.int w)) (x6 := none) (x7 := none) (x8 := none) (x9 := none) (x10 := none) (x11 := none) (x12 := none) (x13 := none) (x14 := none) lc hrp.1 (2 + dr w 2 % 8).toNat 0 [] (st ++ [.lst []]) none (by omega) get_last rfl .nil
  have s1 : (st ++ [Ob.lst []]).set st.length (.lst (Rs rows0)) = st ++ [.lst (Rs rows0)] := by rw [set_at]; rfl
  rw [s1] at f1
  have r1 : rangeD 0 (2 + dr w 2 % 8).toNat = (List.range' 0 (2 + dr w 2 % 8).toNat).map fun (i : Nat) => D.int (i : Int) := by rw [rangeD_eq, List.range_eq_range']
  have e8 : ∀ (x5 x9 x10 x11 x12 x13 x14 : Option D), mLc false (mItems (mVar 4)) (.one 7) [7] (mTest (mBin (dIn false) (mC (.str "door")) (mBin dIx (mVar 7) (mC (.int 4))))) (mBin dIx (mVar 7) (mC (.int 0))) [some (.frz (Is ns)), some (.int w), some (.lst (Is cells)), some (.lst (Ss rooms)), some (.ref st.length), x5, none, none, none, x9, x10, x11, x12, x13, x14] (st ++ [.lst (Rs rows0)]) = .ok (.lst (Ss (nms (isT "door") rows0))) (st ++ [.lst (Rs rows0)]) := fun x5 x9 x10 x11 x12 x13 x14 => by
    rw [← ss_nms]
    refine lc_rows (rl_ref (a := st.length) get_last) (by omega) rfl (fun r _ => ?_) (fun r _ _ => rfl)
    have q := r_trs (st := st ++ [.lst (Rs rows0)]) r
    simp_arith [q]
    rfl
  have ldo := nms_len (isT "door") rows0
  generalize nms (isT "door") rows0 = doors at *
  have e9 := fun st' : Store => ss_cnt (st := st') rooms
  obtain ⟨ways, y5, y9, g1, g2⟩ := ways_for (rooms := rooms) (doors := doors) (b := st.length + 1) (x0 := some (.frz (Is ns))) (x1 := some (.int w)) (x2 := some (.lst (Is cells))) (x4 := some (.ref st.length)) (x7 := none) (x10 := none) (x11 := none) (x12 := none) (x13 := none) (x14 := none) (by omega) ((rooms.length : Int) - 1).toNat 0 [] (st ++ [.lst (Rs rows0), .lst []]) z5 none (by omega) (by omega) (by rw [get_at_add]; rfl) (by simp)
  have s2 : (st ++ [Ob.lst (Rs rows0), Ob.lst []]).set (st.length + 1) (.lst (Ws ways)) = st ++ [.lst (Rs rows0), .lst (Ws ways)] := by rw [set_at_add]; rfl
  rw [s2] at g1
  have r2 : rangeD 0 ((rooms.length : Int) - 1).toNat = (List.range' 0 ((rooms.length : Int) - 1).toNat).map fun (i : Nat) => D.int (i : Int) := by rw [rangeD_eq, List.range_eq_range']
  have lw : ways.length ≤ 6 := by omega
  have t1 : (st ++ [Ob.lst (Rs rows0), Ob.lst (Ws ways)])[st.length]? = some (.lst (Rs rows0)) := by rw [get_at]; rfl
  have t2 : (st ++ [Ob.lst (Rs rows0), Ob.lst (Ws ways)])[st.length + 1]? = some (.lst (Ws ways)) := by rw [get_at_add]; rfl
  have e10 : ∀ (x5 x9 x12 x13 x14 : Option D), mLc false (mItems (mVar 8)) (.one 11) [11] mYes (mBin dIx (mVar 11) (mC (.int 3))) [some (.frz (Is ns)), some (.int w), some (.lst (Is cells)), some (.lst (Ss rooms)), some (.ref st.length), x5, some (.lst (Ss doors)), none, some (.ref (st.length + 1)), x9, none, none, x12, x13, x14] (st ++ [.lst (Rs rows0), .lst (Ws ways)]) = .ok (.lst (Ss (ways.map (·.e)))) (st ++ [.lst (Rs rows0), .lst (Ws ways)]) := fun x5 x9 x12 x13 x14 => by
    rw [show Ss (ways.map (·.e)) = ways.map fun r => D.str r.e by show List.map D.str (List.map _ _) = _; rw [List.map_map]; rfl]
    refine mLc_all (enc := Way.d) (g := [(st.length + 1, .lst (Ws ways))]) (xs := ways) ?_ (guard_one.mpr t2) (by unfold sizeLine; omega) fun r _ => ⟨_, rfl, rfl⟩
    simp_arith [t2]
    rfl
  generalize ways.map (·.e) = used at *
  have e11 : ∀ (x5 x9 x11 x12 x13 x14 : Option D), mLc false (mItems (mVar 4)) (.one 7) [7] mYes (mIfE (mAndT (mTest (mBin (dIn false) (mC (.str "door")) (mBin dIx (mVar 7) (mC (.int 4))))) (mTest (mBin (dIn true) (mBin dIx (mVar 7) (mC (.int 0))) (mVar 10)))) (mBin (dAdd false) (mSl false (mVar 7) mNoPart (mPart (mC (.int 4)))) (mTup (mCons (mTup mNil) mNil))) (mVar 7)) [some (.frz (Is ns)), some (.int w), some (.lst (Is cells)), some (.lst (Ss rooms)), some (.ref st.length), x5, some (.lst (Ss doors)), none, some (.ref (st.length + 1)), x9, some (.lst (Ss used)), x11, x12, x13, x14] (st ++ [.lst (Rs rows0), .lst (Ws ways)]) = .ok (.lst (Rs (rows0.map (fx used)))) (st ++ [.lst (Rs rows0), .lst (Ws ways)]) := fun x5 x9 x11 x12 x13 x14 => by
    rw [fx_d]
    refine mLc_all (enc := Row.d) (g := [(st.length, .lst (Rs rows0))]) (xs := rows0) ?_ (guard_one.mpr t1) (by unfold sizeLine; omega) fun r _ => ⟨_, rfl, ?_⟩
    · simp_arith [t1]
      rfl
    · have q := r_trs (st := st ++ [.lst (Rs rows0), .lst (Ws ways)]) r
      have q2 := r_nm (st := st ++ [.lst (Rs rows0), .lst (Ws ways)]) r
      have q3 : dSl false r.d none (some 4) (st ++ [.lst (Rs rows0), .lst (Ws ways)]) = .ok (.tup [.str r.name, .str r.noun, .tup (Ss r.adjs), .tup (Ss r.wh)]) (st ++ [.lst (Rs rows0), .lst (Ws ways)]) := rfl
      by_cases c1 : ("door" : Str) ∈ r.trs
      · by_cases c2 : r.name ∈ used
        · have z : fx used r = r := by unfold fx; rw [if_neg fun z => z.2 c2]
          rw [z]
          simp_arith [q, q2, c1, c2]
        · have z : fx used r = { r with trs := [] } := by unfold fx; rw [if_pos ⟨c1, c2⟩]
          rw [z]
          simp_arith [q, q2, c1, c2, q3]
          rfl
      · have z : fx used r = r := by unfold fx; rw [if_neg fun z => c1 z.1]
        rw [z]
        simp_arith [q, c1]
  generalize hrows : rows0.map (fx used) = rows at *
  have lrows : rows.length = rows0.length := by rw [← hrows, List.length_map]
  have e12 := fun st' : Store => mixed_run (n := n + 3) (st := st') (c := w) (k := 3) (by decide) (by decide)
  have h13 : 0 ≤ dr w 3 % 13 ∧ dr w 3 % 13 < 13 := ⟨Int.emod_nonneg _ (by decide), Int.emod_lt_of_pos _ (by decide)⟩
  obtain ⟨us, v5, k1, k2, k3⟩ := rules_for (C := cF (n + 4)) (rooms := rooms) (rows := rows) (cells := cells) (a := st.length + 2) (x0 := some (.frz (Is ns))) (x1 := some (.int w)) (x6 := some (.lst (Ss doors))) (x7 := none) (x8 := some (.ref (st.length + 1))) (x9 := y9) (x10 := some (.lst (Ss used))) (x11 := none) (x13 := none) (x14 := none) (by omega) (by omega) lc hrp.1 (by omega) (fun c k st h0 h1 => mixed_run (n := n + 3) h0 h1) (fun m st => rule_run (n := n + 1) (by omega) (by omega) hrp.1 (by omega)) (dr w 3 % 13).toNat 0 [] (st ++ [.lst (Rs rows0), .lst (Ws ways), .lst []]) y5 (by omega) (by simp) (by rw [get_at_add]; rfl) (fun u hu => by simp at hu)
  have s3 : (st ++ [Ob.lst (Rs rows0), Ob.lst (Ws ways), Ob.lst []]).set (st.length + 2) (.lst us) = st ++ [.lst (Rs rows0), .lst (Ws ways), .lst us] := by rw [set_at_add]; rfl
  rw [s3] at k1
  have r3 : rangeD 0 (dr w 3 % 13).toNat = (List.range' 0 (dr w 3 % 13).toNat).map fun (i : Nat) => D.int (i : Int) := by rw [rangeD_eq, List.range_eq_range']
  have e13 : mLc false (mEnum (mVar 3)) (.many [5, 14]) [5, 14] mYes (mTup (mCons (mVar 14) (mCons (mBin (dEq false) (mBin dMod (mCall 2 (cF (n + 4) i__law_mixed) (mCons (mVar 1) (mCons (mBin (dAdd false) (mC (.int 40)) (mVar 5)) mNil))) (mC (.int 5))) (mC (.int 0))) mNil))) [some (.frz (Is ns)), some (.int w), some (.lst (Is cells)), some (.lst (Ss rooms)), some (.lst (Rs rows)), v5, some (.lst (Ss doors)), none, some (.ref (st.length + 1)), y9, some (.lst (Ss used)), none, some (.ref (st.length + 2)), none, none] (st ++ [.lst (Rs rows0), .lst (Ws ways), .lst us]) = .ok (.lst (Ps (plOf w rooms))) (st ++ [.lst (Rs rows0), .lst (Ws ways), .lst us]) := by
    rw [show Ps (plOf w rooms) = rooms.zipIdx.map fun p => D.tup [.str p.1, .bl (decide (dr w (40 + (p.2 : Int)) % 5 = 0))] by unfold Ps plOf; rw [List.map_map]; rfl]
    have lz : rooms.zipIdx.length = rooms.length := by simp
    refine mLc_all (enc := fun p : Str × Nat => D.tup [.int (p.2 : Int), .str p.1]) (g := []) (xs := rooms.zipIdx) ?_ (guard_nil _) (by unfold sizeLine; omega) fun p hp => ⟨_, rfl, ?_⟩
    · rw [← hR.enum]
      simp_arith []
    · have hp2 : p.2 < rooms.length := by
        have := List.snd_lt_of_mem_zipIdx hp
        omega
      have q := mixed_run (n := n + 3) (st := st ++ [.lst (Rs rows0), .lst (Ws ways), .lst us]) (c := w) (k := 40 + (p.2 : Int)) (by omega) (by omega)
      simp_arith [q]
  have T : Tale rooms (plOf w rooms) rows ways us := ⟨hR, hR.pls w, ⟨rows0, used, f2, hrows.symm, by omega, by omega⟩, lw, by omega, k2⟩
  refine ⟨rooms, plOf w rooms, rows, ways, us, T, cc (ext := [.lst (Rs rows0), .lst (Ws ways), .lst us]) (d := .lst [.lst (Ps (plOf w rooms)), .lst (Rs rows), .ref (st.length + 1), .lst (STS.map Sd), .ref (st.length + 2), .lst [], .lst [], .lst []]) rfl rfl B__law_tale ?_ ?_⟩
  · have es : [D.tup [.str "fed", .int 0], .tup [.str "mood", .int 1]] = STS.map Sd := rfl
    have ls : (STS.map Sd).length ≤ 16777216 := by decide
    unfold P__law_tale
    simp_arith [e0, e1, e2, hw, e3, e4, l4, e5, d6, l6, e6, e7, q_for, q_for1, r1, mkL_t]
    rw [f1]
    simp_arith [e8, e9, q_for, q_for1, r2, mkL_t]
    rw [show (st ++ [Ob.lst (Rs rows0)]).length = st.length + 1 by simp, g1]
    simp_arith [e10, e11, e12, q_for, q_for1, r3, mkL_t]
    rw [show (st ++ [Ob.lst (Rs rows0), Ob.lst (Ws ways)]).length = st.length + 2 by simp, k1]
    simp_arith [e13, es, ls]
  · have u1 : (st ++ [Ob.lst (Rs rows0), Ob.lst (Ws ways), Ob.lst us])[st.length + 1]? = some (.lst (Ws ways)) := by rw [get_at_add]; rfl
    have u2 : (st ++ [Ob.lst (Rs rows0), Ob.lst (Ws ways), Ob.lst us])[st.length + 2]? = some (.lst us) := by rw [get_at_add]; rfl
    generalize st ++ [Ob.lst (Rs rows0), Ob.lst (Ws ways), Ob.lst us] = sx at *
    have lPl : (plOf w rooms).length ≤ 4 := by unfold plOf; simp; omega
    have z1 : fz 63 st.length sx (.lst (Ps (plOf w rooms))) = some (.lst (Ps (plOf w rooms))) := Tr.fz (k := 3) (.lst (fun x hx => by
      obtain ⟨q, _, rfl⟩ := List.mem_map.mp hx
      exact .tup (fun y hy => by
        simp only [List.mem_cons, List.not_mem_nil, or_false] at hy
        rcases hy with rfl | rfl
        · exact .str _ _
        · exact .bl _ _) (by simp)) (by unfold Ps; rw [List.length_map]; omega)) (by decide)
    have z2 : fz 63 st.length sx (.lst (Rs rows)) = some (.lst (Rs rows)) := Tr.fz (k := 4) (.lst (fun x hx => by
      obtain ⟨q, hq, rfl⟩ := List.mem_map.mp hx
      exact Row.tr (T.rok q hq)) (by unfold Rs; rw [List.length_map]; omega)) (by decide)
    have z3 : fz 63 st.length sx (.ref (st.length + 1)) = some (.lst (Ws ways)) := by
      rw [fz_ref_lst (by omega) u1, sq_all (xs := Ws ways) fun x hx => by
        obtain ⟨q, _, rfl⟩ := List.mem_map.mp hx
        exact q.tr.fz (by decide)]
      rfl
    have z4 : fz 63 st.length sx (.lst (STS.map Sd)) = some (.lst (STS.map Sd)) := rfl
    have z5 : fz 63 st.length sx (.ref (st.length + 2)) = some (.lst us) := by
      rw [fz_ref_lst (by omega) u2, sq_all (xs := us) fun x hx => (k2 x hx).fz (by decide)]
      rfl
    have z6 : fz 63 st.length sx (.lst []) = some (.lst []) := rfl
    show (sq [fz 63 st.length sx (.lst (Ps (plOf w rooms))), fz 63 st.length sx (.lst (Rs rows)), fz 63 st.length sx (.ref (st.length + 1)), fz 63 st.length sx (.lst (STS.map Sd)), fz 63 st.length sx (.ref (st.length + 2)), fz 63 st.length sx (.lst []), fz 63 st.length sx (.lst []), fz 63 st.length sx (.lst [])]).map D.lst = _
    rw [z1, z2, z3, z4, z5, z6]
    rfl
end K20
namespace K20
open PySem L2 Mi
local macro_rules
  | `(tactic| simp_arith [$ts,*]) => `(tactic| simp (disch := first | assumption | omega | (simp only [List.length_cons, List.length_nil, List.length_map, List.length_append]; done) | (simp only [List.length_cons, List.length_nil, List.length_map, List.length_append]; omega)) only [↓reduceIte, r_seq, seq_nx, seq_rt, seq_no, seq_ex, seq_bk, seq_ct, OS_turn_nx, OS_turn_ct, OS_turn_rt, OS_turn_bk, turn_ex, O_bind_ok, O_bind_ex, O_bind_no, O_toS_ok, O_toS_ex, O_toS_no, O_strict_ok, r_var0, r_varS, r_C, r_nil, r_un, r_app, r_lst, r_tup, r_yes, r_nopart, r_snil, r_break, r_cont, r_retN, q_bin, q_bin2, q_cons, q_cons1, q_cons2, q_meth, q_meth1, q_tru, q_tru1, q_truO, q_test, q_test1, q_notT, q_notT1, q_andT, q_andTt, q_andTf, q_orT, q_orTt, q_orTf, q_ifE, q_ifT, q_iteT, q_iteF, q_andV, q_andV1, q_andOt, q_andOf, q_orV, q_orV1, q_orOt, q_orOf, q_notV, q_notV1, q_notO, q_chain, q_chain1, q_chain2, q_chain3t, q_chain3f, q_part, q_part1, q_sl, q_sl1, q_sl2, q_sl3, q_items, q_items1, q_srcO, q_enum, q_enum1, q_enumO, q_pnil, q_pair, q_pair1, q_pair2, q_pair3, q_disp, q_zip, q_zip1, q_zip2, zipS_tt, zipS_ll, q_range1, q_range11, q_range2, q_range21, q_range3, q_isi, q_isi1, q_isiO, q_isc, q_isc1, q_iscO, q_call, q_call1, q_attr, q_attr1, q_attrO, q_attrO2, q_mth, q_mth1, q_mthO, q_mth2, q_mth3, q_make, q_make1, q_asg, q_asg1, q_asgO, q_expr, q_expr1, q_ret, q_ret1, q_if, q_ift, q_iff, q_whilet, q_whilef, q_atr, q_atr1, q_atr2, q_aa1, q_aa2, q_aa3, q_aa4, q_step, q_step1, q_step2, insAt_ref, q_insO, setAt_ref, q_setO, isNonO_non, putD, bindT, setD, wipeD, List.map_cons, List.map_nil, List.replicate, List.set_cons_zero, List.set_cons_succ, List.cons_append, List.nil_append, List.append_nil, List.length_cons, List.length_nil, Nat.reduceAdd, Nat.reduceSub, Nat.reduceEqDiff, Nat.reduceLT, Int.reduceLT, Int.reduceLE, Int.reduceEq, Nat.zero_add, Nat.add_zero, e_ints, e_bls, e_strs, sgnT, sgnF, l_ints, a_ints, s_ints, tru_bl, len_str, ty_str, ty_int, ty_bl, ty_non, ty_lst, ty_tup, ty_frz, ty_dct, tyOf_ref, lt_ii, gt_ii, ge_ii, neg_i, is_non, isNon_non, isNon_str, isNon_lst, isNon_tup, isNon_ref, isNon_int, lstOf_ref, lstOf_lst, lstOf_frz, seqOf_tup, seqOf_frz, seqOf_lst, seqOf_ref, listOf_frz, listOf_lst, listOf_ref, listG_frz, listG_lst, listG_ref, items_lst, items_frz, items_tup, items_str, items_ref, rdOf_ref, rdOf_lst, rdOf_tup, rdOf_frz, rdOf_str, rdOf_dct, dctOf_ref, dctOf_lst, dctOf_tup, dctOf_frz, dctOf_str, dctOf_dct, len_lst, len_tup, len_frz, len_ref, list_any, tuple_tup, tuple_lst, tuple_frz, tuple_ref, int_int, int_bl, mkL_t, mkL_f, mkT_ok, append_ref, clear_ref, if_sz, tyD_ref, tyD_str, tyD_lst, add_lr, add_rl, add_rr, add_ll, add_tt, add_ss, mod_ii, div_ii, mul_ii, List.lookup_cons, beq_self_eq_true, Bool.and_true, Bool.true_and, Bool.or_true, Bool.true_or, Bool.false_or, Bool.or_false, Bool.false_and, Bool.and_false, Bool.not_true, Bool.not_false, Bool.false_eq_true, Bool.true_eq_false, Option.isSome_some, Option.isSome_none, Option.map_some, Option.map_none, decide_true, decide_false, if_true, if_false, get_at, get_at_add, set_at, set_at_add, List.append_assoc, List.getElem?_cons_zero, List.getElem?_cons_succ, in_tup, in_lst, and_true, true_and, and_self, $ts,*])
variable {n : Nat} {st : Store}
/-! ### the law's own -/
structure OI where
  me : Nat
  wh : Nat
  ld : Nat
  wn : Nat
  ct : Nat
def OI.ix (M : OI) : List Nat := [M.me, M.wh, M.ld, M.wn, M.ct]
def ofs (M : OI) (p : Str) : List (Key × D) := [(.inr "here", .str p), (.inr "where", .ref M.wh), (.inr "open", .ref M.ld), (.inr "worn", .ref M.wn), (.inr "count", .ref M.ct)]
structure OwAt (st : Store) (M : OI) (S : Sx) : Prop where
  me : st[M.me]? = some (.dct (ofs M S.spot))
  wh : st[M.wh]? = some (.dct (kv dW S.wh))
  ld : st[M.ld]? = some (.dct (kv D.bl S.ld))
  wn : st[M.wn]? = some (.lst [])
  ct : st[M.ct]? = some (.dct (kv D.int S.ct))
  nd : M.ix.Nodup
theorem OwAt.frame {st' : Store} {M : OI} {S : Sx} (h : OwAt st M S) (e : ∀ k ∈ M.ix, st'[k]? = st[k]?) : OwAt st' M S :=
  ⟨by rw [e _ (by simp [OI.ix])]; exact h.me, by rw [e _ (by simp [OI.ix])]; exact h.wh, by rw [e _ (by simp [OI.ix])]; exact h.ld, by rw [e _ (by simp [OI.ix])]; exact h.wn, by rw [e _ (by simp [OI.ix])]; exact h.ct, h.nd⟩
section
variable {M : OI} {p : Str}
theorem vo1 : valD (ofs M p) (.inr "here") = some (.str p) := rfl
theorem vo3 : valD (ofs M p) (.inr "where") = some (.ref M.wh) := rfl
theorem vo4 : valD (ofs M p) (.inr "open") = some (.ref M.ld) := rfl
theorem vo5 : valD (ofs M p) (.inr "worn") = some (.ref M.wn) := rfl
theorem vo6 : valD (ofs M p) (.inr "count") = some (.ref M.ct) := rfl
variable (h : st[M.me]? = some (.dct (ofs M p)))
include h
theorem o_here : dIx (.ref M.me) (.str "here") st = .ok (.str p) st := ix_of (rd_ref h) vo1
theorem o_where : dIx (.ref M.me) (.str "where") st = .ok (.ref M.wh) st := ix_of (rd_ref h) vo3
theorem o_open : dIx (.ref M.me) (.str "open") st = .ok (.ref M.ld) st := ix_of (rd_ref h) vo4
theorem o_worn : dIx (.ref M.me) (.str "worn") st = .ok (.ref M.wn) st := ix_of (rd_ref h) vo5
theorem o_count : dIx (.ref M.me) (.str "count") st = .ok (.ref M.ct) st := ix_of (rd_ref h) vo6
end
inductive Hs : List (List Str) → List Str → Prop
  | nil : Hs [] []
  | cons {w : List Str} {h : Str} {ws : List (List Str)} {hs : List Str} (a : Held w h) (b : Hs ws hs) : Hs (w :: ws) (h :: hs)
theorem Hs.len {ws : List (List Str)} {hs : List Str} (h : Hs ws hs) : ws.length = hs.length := by
  induction h with
  | nil => rfl
  | cons _ _ ih => simp [ih]
theorem Hs.snd {ws : List (List Str)} {hs : List Str} (h : Hs ws hs) : (ws.map fun w => D.str (w.getD 1 "")) = Ss hs := by
  induction h with
  | nil => rfl
  | @cons w h ws hs a b ih =>
    show D.str (w.getD 1 "") :: _ = D.str h :: Ss hs
    rw [ih]
    rcases a with rfl | rfl <;> rfl
theorem Hs.held {ws : List (List Str)} {hs : List Str} (h : Hs ws hs) : ∀ w ∈ ws, ∃ x, Held w x := by
  induction h with
  | nil => intro w hw; simp at hw
  | cons a b ih =>
    intro w hw
    rcases List.mem_cons.mp hw with rfl | hw
    · exact ⟨_, a⟩
    · exact ih w hw
section
variable {M : OI} {S : Sx} {W : List (Str × List Str)}
theorem outer_while {p : Str} {b : Nat} {x1 : Option D} {w l r : List Str} (c : Cw W w l r) : ∀ (cs : List (List Str)) (st : Store) (k : Nat), st[M.me]? = some (.dct (ofs M p)) → st[M.wh]? = some (.dct (kv dW W)) → M.me ≠ b → M.wh ≠ b → st[b]? = some (.lst (cs.map dW)) → cs.length + l.length ≤ 1000 →
    ∃ ws, Hs ws l ∧ sWhile (mTest (mBin (dIn false) (mBin dIx (mVar 3) (mC (.int 0))) (mTup (mCons (mC (.str "in")) (mCons (mC (.str "on")) mNil))))) (sSeq (sExpr (mMeth "list" dAppend (mVar 2) (mCons (mVar 3) mNil)))
    (sAsg (mBin dIx (mBin dIx (mVar 0) (mC (.str "where"))) (mBin dIx (mVar 3) (mC (.int 1)))) (.one 3))) (l.length + 1 + k) [some (.ref M.me), x1, some (.ref b), some (dW w)] st = .nx [some (.ref M.me), x1, some (.ref b), some (dW r)] (st.set b (.lst ((cs ++ ws).map dW))) := by
  induction c with
  | @top r hr =>
    intro cs st k h1 h2 n1 n2 h3 hl
    obtain ⟨a, e1, e2⟩ := root_ix hr
    refine ⟨[], .nil, ?_⟩
    rw [show cs ++ ([] : List (List Str)) = cs by simp, set_same h3, show ([] : List Str).length + 1 + k = k + 1 by simp; omega, q_while]
    simp_arith [io_eq, e1, e2]
  | @up w w' l r y hh e c ih =>
    intro cs st k h1 h2 n1 n2 h3 hl
    obtain ⟨a, e1, e2, e3⟩ := held_ix hh
    simp at hl
    have l3 : (cs.map dW).length < 16777216 := by rw [List.length_map]; omega
    have e6 : ("list" == "list") = true := rfl
    have e7 : cs.map dW ++ [dW w] = (cs ++ [w]).map dW := by simp
    have q1 : (st.set b (.lst ((cs ++ [w]).map dW)))[M.me]? = some (.dct (ofs M p)) := by rw [set_at_ne (Ne.symm n1)]; exact h1
    have q2 : (st.set b (.lst ((cs ++ [w]).map dW)))[M.wh]? = some (.dct (kv dW W)) := by rw [set_at_ne (Ne.symm n2)]; exact h2
    have q3 : (st.set b (.lst ((cs ++ [w]).map dW)))[b]? = some (.lst ((cs ++ [w]).map dW)) := List.getElem?_set_self (lt_of_get h3)
    obtain ⟨ws, hws, g⟩ := ih (cs ++ [w]) _ k q1 q2 n1 n2 q3 (by simp; omega)
    refine ⟨w :: ws, .cons hh hws, ?_⟩
    rw [List.set_set, show (cs ++ [w]) ++ ws = cs ++ w :: ws by simp] at g
    have e4 := o_where q1
    have e5 := ix_kv (rd_ref q2) e
    generalize hX : (cs ++ [w]).map dW = X at *
    rw [show (y :: l).length + 1 + k = (l.length + 1 + k) + 1 by simp; omega, q_while]
    simp_arith [io_eq, e1, e2, e3, e6, h3, l3, e7, e4, e5]
    exact g
theorem outer_run (o : OwAt st M S) {h : Str} {w l r : List Str} (c : Cw S.wh w l r) (e : gt S.wh h = some w) (hl : l.length ≤ 900) : ∃ ws, Hs ws l ∧ cF (n + 1) i__law_outer [.ref M.me, .str h] st = .ok (.tup [.lst (ws.map dW), dW r]) st := by
  have e0 : startD N__law_outer.length [.ref M.me, .str h] = [some (.ref M.me), some (.str h), none, none] := rfl
  have b1 : M.me < st.length := lt_of_get o.me
  have b2 : M.wh < st.length := lt_of_get o.wh
  have o1 : (st ++ [Ob.lst []])[M.me]? = some (.dct (ofs M S.spot)) := by rw [List.getElem?_append_left b1]; exact o.me
  have o2 : (st ++ [Ob.lst []])[M.wh]? = some (.dct (kv dW S.wh)) := by rw [List.getElem?_append_left b2]; exact o.wh
  obtain ⟨ws, hws, g⟩ := outer_while (p := S.spot) (M := M) (b := st.length) (x1 := some (.str h)) c [] (st ++ [.lst []]) (loopFuel - (l.length + 1)) o1 o2 (by omega) (by omega) get_last (by simp; omega)
  rw [show l.length + 1 + (loopFuel - (l.length + 1)) = loopFuel by rw [fuel_is]; omega, List.nil_append, show (st ++ [Ob.lst []]).set st.length (.lst (ws.map dW)) = st ++ [.lst (ws.map dW)] by rw [set_at]; rfl] at g
  have lw := hws.len
  have lr : r.length ≤ 2 := by
    rcases c.root with ⟨p, rfl⟩ | rfl | rfl <;> simp
  refine ⟨ws, hws, cc (ext := [.lst (ws.map dW)]) (d := .tup [.ref st.length, dW r]) rfl rfl B__law_outer ?_ ?_⟩
  · have e1 := o_where o1
    have e2 := ix_kv (rd_ref o2) e
    unfold P__law_outer
    simp_arith [e0, mkL_t, e1, e2]
    rw [g]
    simp_arith []
  · have z1 : fz 63 st.length (st ++ [Ob.lst (ws.map dW)]) (.ref st.length) = some (.lst (ws.map dW)) := by
      rw [fz_ref_lst (by omega) get_last, sq_all fun x hx => by
        obtain ⟨q, hq, rfl⟩ := List.mem_map.mp hx
        obtain ⟨y, hy⟩ := hws.held q hq
        have lq : q.length ≤ 2 := by rcases hy with rfl | rfl <;> simp
        exact Tr.fz (k := 2) (.tup (Tr.ss 0 _) (by rw [List.length_map]; omega)) (by decide)]
      rfl
    have z2 : fz 63 st.length (st ++ [Ob.lst (ws.map dW)]) (dW r) = some (dW r) := Tr.fz (k := 2) (.tup (Tr.ss 0 _) (by rw [List.length_map]; omega)) (by decide)
    show (sq [fz 63 st.length (st ++ [Ob.lst (ws.map dW)]) (.ref st.length), fz 63 st.length (st ++ [Ob.lst (ws.map dW)]) (dW r)]).map D.tup = _
    rw [z1, z2]
    rfl
end
end K20
namespace K20
open PySem L2 Mi
local macro_rules
  | `(tactic| simp_arith [$ts,*]) => `(tactic| simp (disch := first | assumption | omega | (simp only [List.length_cons, List.length_nil, List.length_map, List.length_append]; done) | (simp only [List.length_cons, List.length_nil, List.length_map, List.length_append]; omega)) only [↓reduceIte, r_seq, seq_nx, seq_rt, seq_no, seq_ex, seq_bk, seq_ct, OS_turn_nx, OS_turn_ct, OS_turn_rt, OS_turn_bk, turn_ex, O_bind_ok, O_bind_ex, O_bind_no, O_toS_ok, O_toS_ex, O_toS_no, O_strict_ok, r_var0, r_varS, r_C, r_nil, r_un, r_app, r_lst, r_tup, r_yes, r_nopart, r_snil, r_break, r_cont, r_retN, q_bin, q_bin2, q_cons, q_cons1, q_cons2, q_meth, q_meth1, q_tru, q_tru1, q_truO, q_test, q_test1, q_notT, q_notT1, q_andT, q_andTt, q_andTf, q_orT, q_orTt, q_orTf, q_ifE, q_ifT, q_iteT, q_iteF, q_andV, q_andV1, q_andOt, q_andOf, q_orV, q_orV1, q_orOt, q_orOf, q_notV, q_notV1, q_notO, q_chain, q_chain1, q_chain2, q_chain3t, q_chain3f, q_part, q_part1, q_sl, q_sl1, q_sl2, q_sl3, q_items, q_items1, q_srcO, q_enum, q_enum1, q_enumO, q_pnil, q_pair, q_pair1, q_pair2, q_pair3, q_disp, q_zip, q_zip1, q_zip2, zipS_tt, zipS_ll, q_range1, q_range11, q_range2, q_range21, q_range3, q_isi, q_isi1, q_isiO, q_isc, q_isc1, q_iscO, q_call, q_call1, q_attr, q_attr1, q_attrO, q_attrO2, q_mth, q_mth1, q_mthO, q_mth2, q_mth3, q_make, q_make1, q_asg, q_asg1, q_asgO, q_expr, q_expr1, q_ret, q_ret1, q_if, q_ift, q_iff, q_whilet, q_whilef, q_atr, q_atr1, q_atr2, q_aa1, q_aa2, q_aa3, q_aa4, q_step, q_step1, q_step2, insAt_ref, q_insO, setAt_ref, q_setO, isNonO_non, putD, bindT, setD, wipeD, List.map_cons, List.map_nil, List.replicate, List.set_cons_zero, List.set_cons_succ, List.cons_append, List.nil_append, List.append_nil, List.length_cons, List.length_nil, Nat.reduceAdd, Nat.reduceSub, Nat.reduceEqDiff, Nat.reduceLT, Int.reduceLT, Int.reduceLE, Int.reduceEq, Nat.zero_add, Nat.add_zero, e_ints, e_bls, e_strs, sgnT, sgnF, l_ints, a_ints, s_ints, tru_bl, len_str, ty_str, ty_int, ty_bl, ty_non, ty_lst, ty_tup, ty_frz, ty_dct, tyOf_ref, lt_ii, gt_ii, ge_ii, neg_i, is_non, isNon_non, isNon_str, isNon_lst, isNon_tup, isNon_ref, isNon_int, lstOf_ref, lstOf_lst, lstOf_frz, seqOf_tup, seqOf_frz, seqOf_lst, seqOf_ref, listOf_frz, listOf_lst, listOf_ref, listG_frz, listG_lst, listG_ref, items_lst, items_frz, items_tup, items_str, items_ref, rdOf_ref, rdOf_lst, rdOf_tup, rdOf_frz, rdOf_str, rdOf_dct, dctOf_ref, dctOf_lst, dctOf_tup, dctOf_frz, dctOf_str, dctOf_dct, len_lst, len_tup, len_frz, len_ref, list_any, tuple_tup, tuple_lst, tuple_frz, tuple_ref, int_int, int_bl, mkL_t, mkL_f, mkT_ok, append_ref, clear_ref, if_sz, tyD_ref, tyD_str, tyD_lst, add_lr, add_rl, add_rr, add_ll, add_tt, add_ss, mod_ii, div_ii, mul_ii, List.lookup_cons, beq_self_eq_true, Bool.and_true, Bool.true_and, Bool.or_true, Bool.true_or, Bool.false_or, Bool.or_false, Bool.false_and, Bool.and_false, Bool.not_true, Bool.not_false, Bool.false_eq_true, Bool.true_eq_false, Option.isSome_some, Option.isSome_none, Option.map_some, Option.map_none, decide_true, decide_false, if_true, if_false, get_at, get_at_add, set_at, set_at_add, List.append_assoc, List.getElem?_cons_zero, List.getElem?_cons_succ, in_tup, in_lst, and_true, true_and, and_self, $ts,*])
variable {n : Nat} {st : Store}
/-! ### moved, on both -/
theorem seq_ex (x : Xc) (ρ : Rho) (b : MS) : (OS.ex x ρ st).seq b = .ex x ρ st := rfl
theorem toS_ex {α : Type} (x : Xc) (ρ : Rho) (k : α → Store → OS) : (O.ex x st : O α).toS ρ k = .ex x ρ st := rfl
theorem bind_ex {α β : Type} (x : Xc) (k : α → Store → O β) : (O.ex x st : O α).bind k = .ex x st := rfl
theorem r_raise (c : Nat) (ρ : Rho) : sRaise c ρ st = .ex ⟨c, []⟩ ρ st := rfl
theorem cx {n i : Nat} {fe : FE} (h : Tx[i]? = some fe) {P : (Nat → Fn) → MS} (hb : ∀ call, bodyOf Gx call fe.sd fe.N = P call) {ds : List D} {st st' : Store} {x : Xc} {ρ : Rho} (r : P (cF n) (startD fe.N.length ds) st = .ex x ρ st') : cF (n + 1) i ds st = .ex x st' := by
  rw [cf h hb]
  unfold runF
  rw [r]
section
variable {G : Gw} {I : SI} {S : Sx} {M : OI}
theorem ring_whileT (h : StAt st G I S) {x : Str} {w l r : List Str} (c : Cw S.wh w l r) : x ∈ l → ∀ k : Nat, sWhile (mTest (mBin (dIn false) (mBin dIx (mVar 2) (mC (.int 0))) (mTup (mCons (mC (.str "in")) (mCons (mC (.str "on")) mNil))))) (sSeq (sIf (mTest (mBin (dEq false) (mBin dIx (mVar 2) (mC (.int 1))) (mVar 1))) (sRet (mC (.bl true))) sNil)
    (sAsg (mBin dIx (mAttr fldF "wheres" (mVar 0)) (mBin dIx (mVar 2) (mC (.int 1)))) (.one 2))) (l.length + 1 + k) [some (.ref I.me), some (.str x), some (dW w)] st = .rt (.bl true) st := by
  induction c with
  | top hr => intro hx; simp at hx
  | @up w w' l r y hh e c ih =>
    intro hx k
    obtain ⟨a, e1, e2, e3⟩ := held_ix hh
    rw [show (y :: l).length + 1 + k = (l.length + 1 + k) + 1 by simp; omega, q_while]
    by_cases e4 : y = x
    · simp_arith [io_eq, e1, e2, e3, e4]
    · have e5 := ix_kv (rd_ref h.wh) e
      have g := ih (by rcases List.mem_cons.mp hx with z | z; exact absurd z.symm e4; exact z) k
      simp_arith [io_eq, e1, e2, e3, e4, h.me, insO_s, q_attr, fs7, ls7, e5]
      exact g
theorem ring_runT (h : StAt st G I S) {x : Str} {w l r : List Str} (c : Cw S.wh w l r) (hx : x ∈ l) (hl : l.length ≤ 1000) : cF (n + 1) i_M_State_would_ring [.ref I.me, .str x, dW w] st = .ok (.bl true) st := by
  refine cp rfl rfl B_M_State_would_ring ?_ rfl
  have e0 : startD N_M_State_would_ring.length [.ref I.me, .str x, dW w] = [some (.ref I.me), some (.str x), some (dW w)] := rfl
  have e1 := ring_whileT h c hx (loopFuel - (l.length + 1))
  rw [show l.length + 1 + (loopFuel - (l.length + 1)) = loopFuel by rw [fuel_is]; omega] at e1
  unfold P_M_State_would_ring
  rw [e0]
  simp_arith [e1]
theorem move_ring (h : StAt st G I S) {x : Str} {w l q : List Str} {r : Row} (hr : gt (rl G.rows) x = some r) (nd : ("door" : Str) ∉ r.trs) (hw : Wr G w) (c : Cw S.wh w l q) (hx : x ∈ l) (hl : l.length ≤ 1000) :
    cF (n + 3) i_M_State_move_thing [.ref I.me, .str x, dW w] st = .ex ⟨0, []⟩ st := by
  have hk := gt_ks hr
  have e0 : startD N_M_State_move_thing.length [.ref I.me, .str x, dW w] = [some (.ref I.me), some (.str x), some (dW w)] := rfl
  have e1 := need_run (n := n + 1) h hk
  have e2 := ix_kv (rd_ref h.rw) hr
  have e3 : dIx r.d (.int 4) st = .ok (.tup (Ss r.trs)) st := rfl
  have e4 := isw_run (n := n) h hw
  have e5 := ring_runT (n := n + 1) h c hx hl
  refine cx (ρ := [some (.ref I.me), some (.str x), some (dW w)]) rfl B_M_State_move_thing ?_
  unfold P_M_State_move_thing
  simp_arith [e0, h.me, insO_s, q_attr, q_mth, mt1, lm1, e1, fs2, ls2, e2, e3, nd, mt4, lm4, e4, mt5, lm5, e5, r_raise, seq_ex]
theorem may_of {W : List (Str × List Str)} {x : Str} {w l r : List Str} (c : Cw W w l r) (hx : x ∉ l) : May W x w := by
  cases c with
  | top h => exact .inl h
  | up hh e c => exact .inr ⟨_, _, _, _, hh, e, c, hx⟩
theorem xs00 : xsF 0 0 = some true := by decide +kernel
theorem now_run (h : StAt st G I S) (ok : Sok G S) {x : Str} {w l q : List Str} {r : Row} (hr : gt (rl G.rows) x = some r) (nd : ("door" : Str) ∉ r.trs) (hw : Wr G w) (c : Cw S.wh w l q) (hl : l.length ≤ 900) :
    ∃ st', cF (n + 4) i_move_now [.ref I.me, .str x, dW w] st = .ok .non st' ∧ Did st st' G I (if x ∈ l then S else mv S x w) := by
  have e0 : startD N_move_now.length [.ref I.me, .str x, dW w] = [some (.ref I.me), some (.str x), some (dW w)] := rfl
  by_cases hx : x ∈ l
  · have e1 := move_ring (n := n) h hr nd hw c hx (by omega)
    refine ⟨st, ck rfl rfl B_move_now ?_, by rw [if_pos hx]; exact ⟨h, Gr.refl, rfl⟩⟩
    have e2 : sExpr (mMth mthF (cF (n + 3)) "move_thing" (mVar 0) (mCons (mVar 1) (mCons (mVar 2) mNil))) [some (.ref I.me), some (.str x), some (dW w)] st = .ex ⟨0, []⟩ [some (.ref I.me), some (.str x), some (dW w)] st := by
      simp_arith [h.me, insO_s, q_mth, mt9, lm9, e1, toS_ex]
    rw [e0]
    unfold P_move_now sTry
    rw [e2]
    show tryO _ _ _ _ _ (xsF 0 0) = _
    rw [xs00]
    rfl
  · obtain ⟨st', e1, d⟩ := move_run (n := n) h ok hr nd hw (may_of c hx) (fun l' r' c' => by rw [← (c.det c').1]; omega)
    refine ⟨st', cn rfl rfl B_move_now (ρ := [some (.ref I.me), some (.str x), some (dW w)]) ?_, by rw [if_neg hx]; exact d⟩
    have e2 : sExpr (mMth mthF (cF (n + 3)) "move_thing" (mVar 0) (mCons (mVar 1) (mCons (mVar 2) mNil))) [some (.ref I.me), some (.str x), some (dW w)] st = .nx [some (.ref I.me), some (.str x), some (dW w)] st' := by
      simp_arith [h.me, insO_s, q_mth, mt9, lm9, e1]
    rw [e0]
    unfold P_move_now sTry
    rw [e2]
/-- the law's own move -/
theorem own_moved (o : OwAt st M S) {x : Str} {w l r : List Str} (c : Cw S.wh w l r) (hl : l.length ≤ 900) (hw : S.wh.length ≤ 1000) :
    cF (n + 2) i__law_moved [.ref M.me, .str x, dW w] st = .ok .non (if x ∈ l then st else st.set M.wh (.dct (kv dW (pt S.wh x w)))) := by
  have e0 : startD N__law_moved.length [.ref M.me, .str x, dW w] = [some (.ref M.me), some (.str x), some (dW w), none] := rfl
  have e1 := o_where o.me
  have e2 := fun ρ => sto_kv (f := dW) (v := w) (k := x) (ρ := ρ) o.wh hw
  have nd := o.nd
  simp only [OI.ix, List.nodup_cons, List.mem_cons, List.not_mem_nil, or_false, not_or, List.nodup_nil, and_true, not_false_eq_true] at nd
  have o1 : (st.set M.wh (.dct (kv dW (pt S.wh x w))))[M.me]? = some (.dct (ofs M S.spot)) := by rw [set_at_ne (by omega)]; exact o.me
  have o2 : (st.set M.wh (.dct (kv dW (pt S.wh x w))))[M.wn]? = some (.lst []) := by rw [set_at_ne (by omega)]; exact o.wn
  have e3 := o_worn o1
  have e4 : dIn false (.str x) (.ref M.wn) (st.set M.wh (.dct (kv dW (pt S.wh x w)))) = .ok (.bl false) (st.set M.wh (.dct (kv dW (pt S.wh x w)))) := by
    have q1 : rdOf (st.set M.wh (.dct (kv dW (pt S.wh x w)))) (.ref M.wn) = none := by
      show (match (st.set M.wh (.dct (kv dW (pt S.wh x w))))[M.wn]? with
        | some (.dct xs) => some xs
        | some (.lck xs) => some xs
        | _ => none) = none
      rw [o2]
    unfold dIn
    dsimp only
    rw [q1, deep_ref o2]
    rfl
  have e5 := fun st' : Store => eq_dW (st := st') (a := w) (b := wW) true
  generalize hs2 : st.set M.wh (.dct (kv dW (pt S.wh x w))) = st2 at *
  have tl : ∀ x3 : Option D, (sSeq (sSto (mVar 2) (mBin dIx (mVar 0) (mC (.str "where"))) (mVar 1))
    (sIf (mAndT (mTest (mBin (dEq true) (mVar 2) (mTup (mCons (mC (.str "with")) mNil)))) (mTest (mBin (dIn false) (mVar 1) (mBin dIx (mVar 0) (mC (.str "worn")))))) (sExpr mNo) sNil)) [some (.ref M.me), some (.str x), some (dW w), x3] st = .nx [some (.ref M.me), some (.str x), some (dW w), x3] st2 := fun x3 => by
    by_cases cw : w = wW
    · have dcw : decide (w = wW) = true := decide_eq_true cw
      simp_arith [q_sto, q_sto1, q_sto2, q_sto3, e1, e2, hs2, wW_eq, e5, dcw]
    · simp_arith [q_sto, q_sto1, q_sto2, q_sto3, e1, e2, hs2, wW_eq, e5, cw, e3, e4]
  cases c with
  | top hr =>
    rw [if_neg (by simp)]
    obtain ⟨a, e6, e7⟩ := root_ix hr
    refine cn rfl rfl B__law_moved (ρ := [some (.ref M.me), some (.str x), some (dW w), none]) ?_
    rw [e0]
    unfold P__law_moved
    refine run_seq (ρ1 := [some (.ref M.me), some (.str x), some (dW w), none]) (st1 := st) ?_ (tl _)
    simp_arith [io_eq, e6, e7]
  | @up _ w' l r y hh e c =>
    obtain ⟨a, e6, e7, e8⟩ := held_ix hh
    obtain ⟨ws, hws, e9⟩ := outer_run (n := n) o c e (by simp at hl; omega)
    have lws := hws.len
    simp at hl
    have e10 : dIx (.tup [.lst (ws.map dW), dW r]) (.int 0) st = .ok (.lst (ws.map dW)) st := rfl
    have e11 : mLc false (mItems (mBin dIx (mCall 2 (cF (n + 1) i__law_outer) (mCons (mVar 0) (mCons (mBin dIx (mVar 2) (mC (.int 1))) mNil))) (mC (.int 0)))) (.one 3) [3] mYes (mBin dIx (mVar 3) (mC (.int 1))) [some (.ref M.me), some (.str x), some (dW w), none] st = .ok (.lst (Ss l)) st := by
      rw [← hws.snd]
      refine mLc_all (enc := dW) (g := []) (xs := ws) ?_ (guard_nil _) (by unfold sizeLine; omega) fun v hv => ⟨_, rfl, ?_⟩
      · simp_arith [e8, e9, e10]
      · obtain ⟨z, hz⟩ := hws.held v hv
        rcases hz with rfl | rfl <;> rfl
    by_cases hx : x ∈ y :: l
    · rw [if_pos hx]
      refine ck rfl rfl B__law_moved ?_
      rw [e0]
      unfold P__law_moved
      by_cases hy : y = x
      · simp_arith [io_eq, e6, e7, e8, hy]
      · have hx2 : x ∈ l := by rcases List.mem_cons.mp hx with z | z; exact absurd z.symm hy; exact z
        simp_arith [io_eq, e6, e7, e8, hy, e11, hx2]
    · rw [if_neg hx]
      rw [List.mem_cons, not_or] at hx
      have hy : ¬ y = x := fun z => hx.1 z.symm
      have hx2 := hx.2
      refine cn rfl rfl B__law_moved (ρ := [some (.ref M.me), some (.str x), some (dW w), none]) ?_
      rw [e0]
      unfold P__law_moved
      refine run_seq (ρ1 := [some (.ref M.me), some (.str x), some (dW w), none]) (st1 := st) ?_ (tl _)
      simp_arith [io_eq, e6, e7, e8, hy, e11, hx2]
end
end K20
namespace K20
open PySem L2 Mi
local macro_rules
  | `(tactic| simp_arith [$ts,*]) => `(tactic| simp (disch := first | assumption | omega | (simp only [List.length_cons, List.length_nil, List.length_map, List.length_append]; done) | (simp only [List.length_cons, List.length_nil, List.length_map, List.length_append]; omega)) only [↓reduceIte, r_seq, seq_nx, seq_rt, seq_no, seq_ex, seq_bk, seq_ct, OS_turn_nx, OS_turn_ct, OS_turn_rt, OS_turn_bk, turn_ex, O_bind_ok, O_bind_ex, O_bind_no, O_toS_ok, O_toS_ex, O_toS_no, O_strict_ok, r_var0, r_varS, r_C, r_nil, r_un, r_app, r_lst, r_tup, r_yes, r_nopart, r_snil, r_break, r_cont, r_retN, q_bin, q_bin2, q_cons, q_cons1, q_cons2, q_meth, q_meth1, q_tru, q_tru1, q_truO, q_test, q_test1, q_notT, q_notT1, q_andT, q_andTt, q_andTf, q_orT, q_orTt, q_orTf, q_ifE, q_ifT, q_iteT, q_iteF, q_andV, q_andV1, q_andOt, q_andOf, q_orV, q_orV1, q_orOt, q_orOf, q_notV, q_notV1, q_notO, q_chain, q_chain1, q_chain2, q_chain3t, q_chain3f, q_part, q_part1, q_sl, q_sl1, q_sl2, q_sl3, q_items, q_items1, q_srcO, q_enum, q_enum1, q_enumO, q_pnil, q_pair, q_pair1, q_pair2, q_pair3, q_disp, q_zip, q_zip1, q_zip2, zipS_tt, zipS_ll, q_range1, q_range11, q_range2, q_range21, q_range3, q_isi, q_isi1, q_isiO, q_isc, q_isc1, q_iscO, q_call, q_call1, q_attr, q_attr1, q_attrO, q_attrO2, q_mth, q_mth1, q_mthO, q_mth2, q_mth3, q_make, q_make1, q_asg, q_asg1, q_asgO, q_expr, q_expr1, q_ret, q_ret1, q_if, q_ift, q_iff, q_whilet, q_whilef, q_atr, q_atr1, q_atr2, q_aa1, q_aa2, q_aa3, q_aa4, q_step, q_step1, q_step2, insAt_ref, q_insO, setAt_ref, q_setO, isNonO_non, putD, bindT, setD, wipeD, List.map_cons, List.map_nil, List.replicate, List.set_cons_zero, List.set_cons_succ, List.cons_append, List.nil_append, List.append_nil, List.length_cons, List.length_nil, Nat.reduceAdd, Nat.reduceSub, Nat.reduceEqDiff, Nat.reduceLT, Int.reduceLT, Int.reduceLE, Int.reduceEq, Nat.zero_add, Nat.add_zero, e_ints, e_bls, e_strs, sgnT, sgnF, l_ints, a_ints, s_ints, tru_bl, len_str, ty_str, ty_int, ty_bl, ty_non, ty_lst, ty_tup, ty_frz, ty_dct, tyOf_ref, lt_ii, gt_ii, ge_ii, neg_i, is_non, isNon_non, isNon_str, isNon_lst, isNon_tup, isNon_ref, isNon_int, lstOf_ref, lstOf_lst, lstOf_frz, seqOf_tup, seqOf_frz, seqOf_lst, seqOf_ref, listOf_frz, listOf_lst, listOf_ref, listG_frz, listG_lst, listG_ref, items_lst, items_frz, items_tup, items_str, items_ref, rdOf_ref, rdOf_lst, rdOf_tup, rdOf_frz, rdOf_str, rdOf_dct, dctOf_ref, dctOf_lst, dctOf_tup, dctOf_frz, dctOf_str, dctOf_dct, len_lst, len_tup, len_frz, len_ref, list_any, tuple_tup, tuple_lst, tuple_frz, tuple_ref, int_int, int_bl, mkL_t, mkL_f, mkT_ok, append_ref, clear_ref, if_sz, tyD_ref, tyD_str, tyD_lst, add_lr, add_rl, add_rr, add_ll, add_tt, add_ss, mod_ii, div_ii, mul_ii, List.lookup_cons, beq_self_eq_true, Bool.and_true, Bool.true_and, Bool.or_true, Bool.true_or, Bool.false_or, Bool.or_false, Bool.false_and, Bool.and_false, Bool.not_true, Bool.not_false, Bool.false_eq_true, Bool.true_eq_false, Option.isSome_some, Option.isSome_none, Option.map_some, Option.map_none, decide_true, decide_false, if_true, if_false, get_at, get_at_add, set_at, set_at_add, List.append_assoc, List.getElem?_cons_zero, List.getElem?_cons_succ, in_tup, in_lst, and_true, true_and, and_self, $ts,*])
variable {n : Nat} {st : Store}
/-! ### effects, on both -/
inductive Ef
  | say (t : Str)
  | set (s : Str) (v : Int)
  | stop
  | move (x : Str) (w : List Str)
def Ef.d : Ef → D
  | .say t => .tup [.str "say", .str t]
  | .set s v => .tup [.str "set", .str s, .int v]
  | .stop => .tup [.str "stop"]
  | .move x w => .tup [.str "move", .str x, dW w]
def Vd (G : Gw) : Ef → Prop
  | .say _ => True
  | .set s v => (s = "fed" ∨ s = "mood") ∧ 0 ≤ v ∧ v ≤ 9
  | .stop => True
  | .move x w => ∃ r, gt (rl G.rows) x = some r ∧ ("door" : Str) ∉ r.trs ∧ Wr G w
structure Sinv (G : Gw) (S : Sx) : Prop where
  ok : Sok G S
  nn : (ks (rl G.rows)).Nodup
  kc : ks S.ct = FM
  good : Good S.wh
  df : ∀ p ∈ S.dr, p.2 = false
  mo : S.mom = 0
def Ring (W : List (Str × List Str)) (x : Str) (w : List Str) : Prop := ∃ l r, Cw W w l r ∧ x ∈ l
open Classical in
noncomputable def mvd (S : Sx) (x : Str) (w : List Str) : Sx := if Ring S.wh x w then S else mv S x w
theorem ring_iff {W : List (Str × List Str)} {x : Str} {w l r : List Str} (c : Cw W w l r) : Ring W x w ↔ x ∈ l := ⟨fun ⟨l', r', c', h⟩ => by rw [(c.det c').1]; exact h, fun h => ⟨l, r, c, h⟩⟩
noncomputable def efS : List Ef → Sx → Sx
  | [], S => S
  | .say _ :: es, S => efS es S
  | .set s v :: es, S => efS es { S with ct := pt S.ct s v }
  | .stop :: _, S => S
  | .move x w :: es, S => efS es (mvd S x w)
def efL : List Ef → List Str
  | [] => []
  | .say t :: es => t :: efL es
  | .stop :: _ => []
  | _ :: es => efL es
def efB : List Ef → Bool
  | [] => false
  | .stop :: _ => true
  | _ :: es => efB es
theorem wr_cw {G : Gw} {S : Sx} (inv : Sinv G S) {w : List Str} (hw : Wr G w) : ∃ l r, Cw S.wh w l r ∧ l.length ≤ 12 := by
  have up : ∀ (t : Str), t ∈ ks (rl G.rows) → ∀ w, Held w t → ∃ l r, Cw S.wh w l r ∧ l.length ≤ 12 := fun t ht w hh => by
    rw [← inv.ok.kw] at ht
    obtain ⟨w', l, r, e, c, _, _, hl, _⟩ := inv.good.at_ inv.ok.lwh ht
    exact ⟨t :: l, r, .up hh e c, by simp; omega⟩
  cases hw with
  | place h => exact ⟨[], _, .top (.inl ⟨_, rfl⟩), by simp⟩
  | mine => exact ⟨[], _, .top (.inr (.inl rfl)), by simp⟩
  | away => exact ⟨[], _, .top (.inr (.inr rfl)), by simp⟩
  | box h hb => exact up _ (gt_ks h) _ (.inl rfl)
  | stand h hb => exact up _ (gt_ks h) _ (.inr rfl)
theorem pt_mem {β : Type} {l : List (Str × β)} {k : Str} {v : β} {p : Str × β} (h : p ∈ pt l k v) : p ∈ l ∨ p.2 = v := by
  unfold pt at h
  split at h
  · obtain ⟨q, hq, rfl⟩ := List.mem_map.mp h
    split
    · exact .inr rfl
    · exact .inl hq
  · rcases List.mem_append.mp h with h | h
    · exact .inl h
    · have : p = (k, v) := by simpa using h
      exact .inr (by rw [this])
theorem wr_len {G : Gw} {w : List Str} (hw : Wr G w) : w.length ≤ 2 := by cases hw <;> simp
theorem Sinv.mv {G : Gw} {S : Sx} (inv : Sinv G S) {x : Str} {w l q : List Str} (hx : x ∈ ks (rl G.rows)) (hw : Wr G w) (c : Cw S.wh w l q) (hn : x ∉ l) : Sinv G (mv S x w) := by
  have h1 : x ∈ ks S.wh := by rw [inv.ok.kw]; exact hx
  have h2 : x ∈ ks S.dr := by rw [inv.ok.kd]; exact hx
  refine ⟨⟨?_, ?_, inv.ok.kl, inv.ok.lr, inv.ok.lc, inv.ok.ll, ?_⟩, inv.nn, inv.kc, inv.good.pt h1 (may_of c hn), ?_, inv.mo⟩
  · show ks (pt S.wh x w) = _
    rw [ks_pt h1]; exact inv.ok.kw
  · show ks (if w = wW then S.dr else pt S.dr x false) = _
    split
    · exact inv.ok.kd
    · rw [ks_pt h2]; exact inv.ok.kd
  · intro p hp
    rcases pt_mem (show p ∈ pt S.wh x w from hp) with h | h
    · exact inv.ok.lw p h
    · rw [h]; exact wr_len hw
  · intro p hp
    have hp : p ∈ (if w = wW then S.dr else pt S.dr x false) := hp
    split at hp
    · exact inv.df p hp
    · rcases pt_mem hp with h | h
      · exact inv.df p h
      · exact h
theorem Sinv.mvd {G : Gw} {S : Sx} (inv : Sinv G S) {x : Str} {w : List Str} (hx : x ∈ ks (rl G.rows)) (hw : Wr G w) : Sinv G (mvd S x w) := by
  obtain ⟨l, r, c, _⟩ := wr_cw inv hw
  unfold K20.mvd
  split
  · exact inv
  · rename_i h
    exact inv.mv hx hw c fun z => h ⟨l, r, c, z⟩
theorem Sinv.set {G : Gw} {S : Sx} (inv : Sinv G S) {s : Str} {v : Int} (hs : s = "fed" ∨ s = "mood") : Sinv G { S with ct := pt S.ct s v } := by
  have h1 : s ∈ ks S.ct := by rw [inv.kc]; rcases hs with rfl | rfl <;> simp [FM]
  exact ⟨⟨inv.ok.kw, inv.ok.kd, inv.ok.kl, inv.ok.lr, by show (pt S.ct s v).length ≤ 6; rw [pt_len _ _ _ h1]; exact inv.ok.lc, inv.ok.ll, inv.ok.lw⟩, inv.nn, by show ks (pt S.ct s v) = _; rw [ks_pt h1]; exact inv.kc, inv.good, inv.df, inv.mo⟩
theorem efS_inv {G : Gw} : ∀ (es : List Ef) {S : Sx}, Sinv G S → (∀ e ∈ es, Vd G e) → Sinv G (efS es S)
  | [], S, inv, _ => inv
  | .say t :: es, S, inv, h => efS_inv es inv fun e he => h e (List.mem_cons_of_mem _ he)
  | .stop :: es, S, inv, h => inv
  | .set s v :: es, S, inv, h => efS_inv es (inv.set (h (.set s v) (List.mem_cons_self ..)).1) fun e he => h e (List.mem_cons_of_mem _ he)
  | .move x w :: es, S, inv, h => by
    obtain ⟨r, hr, _, hw⟩ := h (.move x w) (List.mem_cons_self ..)
    exact efS_inv es (inv.mvd (gt_ks hr) hw) fun e he => h e (List.mem_cons_of_mem _ he)
theorem OwAt.set_wh {M : OI} {S : Sx} (h : OwAt st M S) (W : List (Str × List Str)) (dr : List (Str × Bool)) : OwAt (st.set M.wh (.dct (kv dW W))) M { S with wh := W, dr := dr } := by
  have nd := h.nd
  simp only [OI.ix, List.nodup_cons, List.mem_cons, List.not_mem_nil, or_false, not_or, List.nodup_nil, and_true, not_false_eq_true] at nd
  exact ⟨by rw [set_at_ne (by omega)]; exact h.me, List.getElem?_set_self (lt_of_get h.wh), by rw [set_at_ne (by omega)]; exact h.ld, by rw [set_at_ne (by omega)]; exact h.wn, by rw [set_at_ne (by omega)]; exact h.ct, h.nd⟩
theorem OwAt.set_ct {M : OI} {S : Sx} (h : OwAt st M S) (W : List (Str × Int)) : OwAt (st.set M.ct (.dct (kv D.int W))) M { S with ct := W } := by
  have nd := h.nd
  simp only [OI.ix, List.nodup_cons, List.mem_cons, List.not_mem_nil, or_false, not_or, List.nodup_nil, and_true, not_false_eq_true] at nd
  exact ⟨by rw [set_at_ne (by omega)]; exact h.me, by rw [set_at_ne (by omega)]; exact h.wh, by rw [set_at_ne (by omega)]; exact h.ld, by rw [set_at_ne (by omega)]; exact h.wn, List.getElem?_set_self (lt_of_get h.ct), h.nd⟩
/-- the law's own move, as one -/
theorem own_mvd {G : Gw} {M : OI} {S : Sx} (o : OwAt st M S) (inv : Sinv G S) {x : Str} {w : List Str} (hw : Wr G w) : ∃ st', cF (n + 2) i__law_moved [.ref M.me, .str x, dW w] st = .ok .non st' ∧ OwAt st' M (mvd S x w) ∧ Gr (fun k => k ∈ M.ix) st st' ∧ st'.length = st.length := by
  obtain ⟨l, r, c, hl⟩ := wr_cw inv hw
  have lw := inv.ok.lwh
  have e := own_moved (n := n) o (x := x) c (by omega) (by omega)
  by_cases hx : x ∈ l
  · rw [if_pos hx] at e
    refine ⟨st, e, ?_, Gr.refl, rfl⟩
    unfold mvd
    rw [if_pos ((ring_iff c).mpr hx)]
    exact o
  · rw [if_neg hx] at e
    refine ⟨_, e, ?_, Gr.set (by simp [OI.ix]), List.length_set⟩
    unfold mvd
    rw [if_neg fun z => hx ((ring_iff c).mp z)]
    exact o.set_wh _ _
theorem st_mvd {G : Gw} {I : SI} {S : Sx} (h : StAt st G I S) (inv : Sinv G S) {x : Str} {w : List Str} {r : Row} (hr : gt (rl G.rows) x = some r) (nd : ("door" : Str) ∉ r.trs) (hw : Wr G w) : ∃ st', cF (n + 4) i_move_now [.ref I.me, .str x, dW w] st = .ok .non st' ∧ Did st st' G I (mvd S x w) := by
  obtain ⟨l, q, c, hl⟩ := wr_cw inv hw
  obtain ⟨st', e, d⟩ := now_run (n := n) h inv.ok hr nd hw c (by omega)
  refine ⟨st', e, ?_⟩
  unfold mvd
  by_cases hx : x ∈ l
  · rw [if_pos hx] at d
    rw [if_pos ((ring_iff c).mpr hx)]
    exact d
  · rw [if_neg hx] at d
    rw [if_neg fun z => hx ((ring_iff c).mp z)]
    exact d
end K20
namespace K20
open PySem L2 Mi
local macro_rules
  | `(tactic| simp_arith [$ts,*]) => `(tactic| simp (disch := first | assumption | omega | (simp only [List.length_cons, List.length_nil, List.length_map, List.length_append]; done) | (simp only [List.length_cons, List.length_nil, List.length_map, List.length_append]; omega)) only [↓reduceIte, r_seq, seq_nx, seq_rt, seq_no, seq_ex, seq_bk, seq_ct, OS_turn_nx, OS_turn_ct, OS_turn_rt, OS_turn_bk, turn_ex, O_bind_ok, O_bind_ex, O_bind_no, O_toS_ok, O_toS_ex, O_toS_no, O_strict_ok, r_var0, r_varS, r_C, r_nil, r_un, r_app, r_lst, r_tup, r_yes, r_nopart, r_snil, r_break, r_cont, r_retN, q_bin, q_bin2, q_cons, q_cons1, q_cons2, q_meth, q_meth1, q_tru, q_tru1, q_truO, q_test, q_test1, q_notT, q_notT1, q_andT, q_andTt, q_andTf, q_orT, q_orTt, q_orTf, q_ifE, q_ifT, q_iteT, q_iteF, q_andV, q_andV1, q_andOt, q_andOf, q_orV, q_orV1, q_orOt, q_orOf, q_notV, q_notV1, q_notO, q_chain, q_chain1, q_chain2, q_chain3t, q_chain3f, q_part, q_part1, q_sl, q_sl1, q_sl2, q_sl3, q_items, q_items1, q_srcO, q_enum, q_enum1, q_enumO, q_pnil, q_pair, q_pair1, q_pair2, q_pair3, q_disp, q_zip, q_zip1, q_zip2, zipS_tt, zipS_ll, q_range1, q_range11, q_range2, q_range21, q_range3, q_isi, q_isi1, q_isiO, q_isc, q_isc1, q_iscO, q_call, q_call1, q_attr, q_attr1, q_attrO, q_attrO2, q_mth, q_mth1, q_mthO, q_mth2, q_mth3, q_make, q_make1, q_asg, q_asg1, q_asgO, q_expr, q_expr1, q_ret, q_ret1, q_if, q_ift, q_iff, q_whilet, q_whilef, q_atr, q_atr1, q_atr2, q_aa1, q_aa2, q_aa3, q_aa4, q_step, q_step1, q_step2, insAt_ref, q_insO, setAt_ref, q_setO, isNonO_non, putD, bindT, setD, wipeD, List.map_cons, List.map_nil, List.replicate, List.set_cons_zero, List.set_cons_succ, List.cons_append, List.nil_append, List.append_nil, List.length_cons, List.length_nil, Nat.reduceAdd, Nat.reduceSub, Nat.reduceEqDiff, Nat.reduceLT, Int.reduceLT, Int.reduceLE, Int.reduceEq, Nat.zero_add, Nat.add_zero, e_ints, e_bls, e_strs, sgnT, sgnF, l_ints, a_ints, s_ints, tru_bl, len_str, ty_str, ty_int, ty_bl, ty_non, ty_lst, ty_tup, ty_frz, ty_dct, tyOf_ref, lt_ii, gt_ii, ge_ii, neg_i, is_non, isNon_non, isNon_str, isNon_lst, isNon_tup, isNon_ref, isNon_int, lstOf_ref, lstOf_lst, lstOf_frz, seqOf_tup, seqOf_frz, seqOf_lst, seqOf_ref, listOf_frz, listOf_lst, listOf_ref, listG_frz, listG_lst, listG_ref, items_lst, items_frz, items_tup, items_str, items_ref, rdOf_ref, rdOf_lst, rdOf_tup, rdOf_frz, rdOf_str, rdOf_dct, dctOf_ref, dctOf_lst, dctOf_tup, dctOf_frz, dctOf_str, dctOf_dct, len_lst, len_tup, len_frz, len_ref, list_any, tuple_tup, tuple_lst, tuple_frz, tuple_ref, int_int, int_bl, mkL_t, mkL_f, mkT_ok, append_ref, clear_ref, if_sz, tyD_ref, tyD_str, tyD_lst, add_lr, add_rl, add_rr, add_ll, add_tt, add_ss, mod_ii, div_ii, mul_ii, List.lookup_cons, beq_self_eq_true, Bool.and_true, Bool.true_and, Bool.or_true, Bool.true_or, Bool.false_or, Bool.or_false, Bool.false_and, Bool.and_false, Bool.not_true, Bool.not_false, Bool.false_eq_true, Bool.true_eq_false, Option.isSome_some, Option.isSome_none, Option.map_some, Option.map_none, decide_true, decide_false, if_true, if_false, get_at, get_at_add, set_at, set_at_add, List.append_assoc, List.getElem?_cons_zero, List.getElem?_cons_succ, in_tup, in_lst, and_true, true_and, and_self, $ts,*])
variable {n : Nat} {st : Store}
theorem ne1 : ¬ ("say" : Str) = "stop" := by decide +kernel
theorem ne2 : ¬ ("set" : Str) = "stop" := by decide +kernel
theorem ne3 : ¬ ("set" : Str) = "say" := by decide +kernel
theorem ne4 : ¬ ("move" : Str) = "stop" := by decide +kernel
theorem ne5 : ¬ ("move" : Str) = "say" := by decide +kernel
theorem ne6 : ¬ ("move" : Str) = "set" := by decide +kernel
def endE (b : Bool) (l : Nat) (ρ : Rho) (st : Store) : OS := if b = true then .rt (.tup [.ref l, .bl true]) st else .nx ρ st
theorem own_for {G : Gw} {M : OI} {a b : Nat} {E0 : List D} {x1 : Option D} (ha : a ∉ M.ix) (hb : b ∉ M.ix) (hab : a ≠ b) : ∀ (es : List Ef) (S : Sx) (st : Store) (ls : List Str) (x3 : Option D), st[a]? = some (.lst E0) → OwAt st M S → Sinv G S → st[b]? = some (.lst (Ss ls)) → ls.length + es.length ≤ 100 → (∀ e ∈ es, Vd G e) →
    ∃ st' z3, forGo [(a, .lst E0)] (.one 3) (sSeq (sIf (mTest (mBin (dEq false) (mBin dIx (mVar 3) (mC (.int 0))) (mC (.str "stop")))) (sRet (mTup (mCons (mVar 2) (mCons (mC (.bl true)) mNil)))) sNil)
    (sIf (mTest (mBin (dEq false) (mBin dIx (mVar 3) (mC (.int 0))) (mC (.str "say")))) (sExpr (mMeth "list" dAppend (mVar 2) (mCons (mBin dIx (mVar 3) (mC (.int 1))) mNil))) (sIf (mTest (mBin (dEq false) (mBin dIx (mVar 3) (mC (.int 0))) (mC (.str "set")))) (sSto (mBin dIx (mVar 3) (mC (.int 2))) (mBin dIx (mVar 0) (mC (.str "count"))) (mBin dIx (mVar 3) (mC (.int 1)))) (sExpr (mCall 3 (cF (n + 2) i__law_moved) (mCons (mVar 0) (mCons (mBin dIx (mVar 3) (mC (.int 1))) (mCons (mBin dIx (mVar 3) (mC (.int 2))) mNil)))))))) (es.map Ef.d) [some (.ref M.me), x1, some (.ref b), x3] st
      = endE (efB es) b [some (.ref M.me), x1, some (.ref b), z3] st' ∧ OwAt st' M (efS es S) ∧ st'[b]? = some (.lst (Ss (ls ++ efL es))) ∧ Gr (fun k => k ∈ M.ix ∨ k = b) st st' ∧ st'.length = st.length
  | [], S, st, ls, x3, h, o, inv, hl, _, _ => ⟨st, x3, for_nilG (guard_one.mpr h), o, by rw [show ls ++ efL [] = ls by simp [efL]]; exact hl, Gr.refl, rfl⟩
  | .stop :: es, S, st, ls, x3, h, o, inv, hl, hn, hv => by
    refine ⟨st, x3, ?_, o, by rw [show ls ++ efL (.stop :: es) = ls by simp [efL]]; exact hl, Gr.refl, rfl⟩
    have t1 : ∀ st, dIx (Ef.stop).d (.int 0) st = .ok (.str "stop") st := fun _ => rfl
    rw [List.map_cons, for_oneG (guard_one.mpr h)]
    generalize (Ef.stop).d = dd at *
    simp_arith [t1]
    rfl
  | .say t :: es, S, st, ls, x3, h, o, inv, hl, hn, hv => by
    have t1 : ∀ st, dIx (Ef.say t).d (.int 0) st = .ok (.str "say") st := fun _ => rfl
    have t2 : ∀ st, dIx (Ef.say t).d (.int 1) st = .ok (.str t) st := fun _ => rfl
    simp at hn
    have e1 : Ss ls ++ [.str t] = Ss (ls ++ [t]) := by simp
    have l1 : (Ss ls).length < 16777216 := by rw [List.length_map]; omega
    have e6 : ("list" == "list") = true := rfl
    obtain ⟨st', z3, g, g1, g2, g3, g4⟩ := own_for (x1 := x1) ha hb hab es S (st.set b (.lst (Ss (ls ++ [t])))) (ls ++ [t]) (some (Ef.say t).d) (by rw [set_at_ne (Ne.symm hab)]; exact h) (o.frame fun k hk => set_at_ne fun z => hb (by rw [z]; exact hk)) inv (List.getElem?_set_self (lt_of_get hl)) (by simp; omega) (fun e he => hv e (List.mem_cons_of_mem _ he))
    refine ⟨st', z3, ?_, g1, by rw [show ls ++ efL (.say t :: es) = (ls ++ [t]) ++ efL es by simp [efL]]; exact g2, (Gr.set (.inr rfl)).trans g3, by rw [g4, List.length_set]⟩
    rw [List.map_cons, for_oneG (guard_one.mpr h)]
    show _ = endE (efB es) b _ st'
    generalize (Ef.say t).d = dd at *
    simp_arith [t1, t2, ne1, e6, hl, l1, e1]
    exact g
  | .set s v :: es, S, st, ls, x3, h, o, inv, hl, hn, hv => by
    have t1 : ∀ st, dIx (Ef.set s v).d (.int 0) st = .ok (.str "set") st := fun _ => rfl
    have t2 : ∀ st, dIx (Ef.set s v).d (.int 1) st = .ok (.str s) st := fun _ => rfl
    have t3 : ∀ st, dIx (Ef.set s v).d (.int 2) st = .ok (.int v) st := fun _ => rfl
    simp at hn
    have v1 : Vd G (.set s v) := hv _ (List.mem_cons_self ..)
    have e1 := o_count o.me
    have lc := inv.ok.lc
    have e2 := fun ρ => sto_kv (f := D.int) (v := v) (k := s) (ρ := ρ) o.ct (by omega)
    have cm : M.ct ∈ M.ix := by simp [OI.ix]
    obtain ⟨st', z3, g, g1, g2, g3, g4⟩ := own_for (x1 := x1) ha hb hab es { S with ct := pt S.ct s v } (st.set M.ct (.dct (kv D.int (pt S.ct s v)))) ls (some (Ef.set s v).d) (by rw [set_at_ne fun z => ha (by rw [← z]; exact cm)]; exact h) (o.set_ct _) (inv.set v1.1) (by rw [set_at_ne fun z => hb (by rw [← z]; exact cm)]; exact hl) (by omega) (fun e he => hv e (List.mem_cons_of_mem _ he))
    refine ⟨st', z3, ?_, g1, g2, (Gr.set (.inl cm)).trans g3, by rw [g4, List.length_set]⟩
    rw [List.map_cons, for_oneG (guard_one.mpr h)]
    show _ = endE (efB es) b _ st'
    generalize (Ef.set s v).d = dd at *
    simp_arith [t1, t2, t3, ne2, ne3, q_sto, q_sto1, q_sto2, q_sto3, e1, e2]
    exact g
  | .move x w :: es, S, st, ls, x3, h, o, inv, hl, hn, hv => by
    have t1 : ∀ st, dIx (Ef.move x w).d (.int 0) st = .ok (.str "move") st := fun _ => rfl
    have t2 : ∀ st, dIx (Ef.move x w).d (.int 1) st = .ok (.str x) st := fun _ => rfl
    have t3 : ∀ st, dIx (Ef.move x w).d (.int 2) st = .ok (dW w) st := fun _ => rfl
    simp at hn
    obtain ⟨r, hr, nd, hw⟩ : Vd G (.move x w) := hv _ (List.mem_cons_self ..)
    obtain ⟨st1, e1, o1, gr1, l1⟩ := own_mvd (n := n) (x := x) o inv hw
    obtain ⟨st', z3, g, g1, g2, g3, g4⟩ := own_for (x1 := x1) ha hb hab es (mvd S x w) st1 ls (some (Ef.move x w).d) (by rw [gr1.same a (lt_of_get h) ha]; exact h) o1 (inv.mvd (gt_ks hr) hw) (by rw [gr1.same b (lt_of_get hl) hb]; exact hl) (by omega) (fun e he => hv e (List.mem_cons_of_mem _ he))
    refine ⟨st', z3, ?_, g1, g2, (gr1.imp fun k _ z => .inl z).trans g3, by rw [g4, l1]⟩
    rw [List.map_cons, for_oneG (guard_one.mpr h)]
    show _ = endE (efB es) b _ st'
    generalize (Ef.move x w).d = dd at *
    simp_arith [t1, t2, t3, ne4, ne5, ne6, e1]
    exact g
end K20
namespace K20
open PySem L2 Mi
local macro_rules
  | `(tactic| simp_arith [$ts,*]) => `(tactic| simp (disch := first | assumption | omega | (simp only [List.length_cons, List.length_nil, List.length_map, List.length_append]; done) | (simp only [List.length_cons, List.length_nil, List.length_map, List.length_append]; omega)) only [↓reduceIte, r_seq, seq_nx, seq_rt, seq_no, seq_ex, seq_bk, seq_ct, OS_turn_nx, OS_turn_ct, OS_turn_rt, OS_turn_bk, turn_ex, O_bind_ok, O_bind_ex, O_bind_no, O_toS_ok, O_toS_ex, O_toS_no, O_strict_ok, r_var0, r_varS, r_C, r_nil, r_un, r_app, r_lst, r_tup, r_yes, r_nopart, r_snil, r_break, r_cont, r_retN, q_bin, q_bin2, q_cons, q_cons1, q_cons2, q_meth, q_meth1, q_tru, q_tru1, q_truO, q_test, q_test1, q_notT, q_notT1, q_andT, q_andTt, q_andTf, q_orT, q_orTt, q_orTf, q_ifE, q_ifT, q_iteT, q_iteF, q_andV, q_andV1, q_andOt, q_andOf, q_orV, q_orV1, q_orOt, q_orOf, q_notV, q_notV1, q_notO, q_chain, q_chain1, q_chain2, q_chain3t, q_chain3f, q_part, q_part1, q_sl, q_sl1, q_sl2, q_sl3, q_items, q_items1, q_srcO, q_enum, q_enum1, q_enumO, q_pnil, q_pair, q_pair1, q_pair2, q_pair3, q_disp, q_zip, q_zip1, q_zip2, zipS_tt, zipS_ll, q_range1, q_range11, q_range2, q_range21, q_range3, q_isi, q_isi1, q_isiO, q_isc, q_isc1, q_iscO, q_call, q_call1, q_attr, q_attr1, q_attrO, q_attrO2, q_mth, q_mth1, q_mthO, q_mth2, q_mth3, q_make, q_make1, q_asg, q_asg1, q_asgO, q_expr, q_expr1, q_ret, q_ret1, q_if, q_ift, q_iff, q_whilet, q_whilef, q_atr, q_atr1, q_atr2, q_aa1, q_aa2, q_aa3, q_aa4, q_step, q_step1, q_step2, insAt_ref, q_insO, setAt_ref, q_setO, isNonO_non, putD, bindT, setD, wipeD, List.map_cons, List.map_nil, List.replicate, List.set_cons_zero, List.set_cons_succ, List.cons_append, List.nil_append, List.append_nil, List.length_cons, List.length_nil, Nat.reduceAdd, Nat.reduceSub, Nat.reduceEqDiff, Nat.reduceLT, Int.reduceLT, Int.reduceLE, Int.reduceEq, Nat.zero_add, Nat.add_zero, e_ints, e_bls, e_strs, sgnT, sgnF, l_ints, a_ints, s_ints, tru_bl, len_str, ty_str, ty_int, ty_bl, ty_non, ty_lst, ty_tup, ty_frz, ty_dct, tyOf_ref, lt_ii, gt_ii, ge_ii, neg_i, is_non, isNon_non, isNon_str, isNon_lst, isNon_tup, isNon_ref, isNon_int, lstOf_ref, lstOf_lst, lstOf_frz, seqOf_tup, seqOf_frz, seqOf_lst, seqOf_ref, listOf_frz, listOf_lst, listOf_ref, listG_frz, listG_lst, listG_ref, items_lst, items_frz, items_tup, items_str, items_ref, rdOf_ref, rdOf_lst, rdOf_tup, rdOf_frz, rdOf_str, rdOf_dct, dctOf_ref, dctOf_lst, dctOf_tup, dctOf_frz, dctOf_str, dctOf_dct, len_lst, len_tup, len_frz, len_ref, list_any, tuple_tup, tuple_lst, tuple_frz, tuple_ref, int_int, int_bl, mkL_t, mkL_f, mkT_ok, append_ref, clear_ref, if_sz, tyD_ref, tyD_str, tyD_lst, add_lr, add_rl, add_rr, add_ll, add_tt, add_ss, mod_ii, div_ii, mul_ii, List.lookup_cons, beq_self_eq_true, Bool.and_true, Bool.true_and, Bool.or_true, Bool.true_or, Bool.false_or, Bool.or_false, Bool.false_and, Bool.and_false, Bool.not_true, Bool.not_false, Bool.false_eq_true, Bool.true_eq_false, Option.isSome_some, Option.isSome_none, Option.map_some, Option.map_none, decide_true, decide_false, if_true, if_false, get_at, get_at_add, set_at, set_at_add, List.append_assoc, List.getElem?_cons_zero, List.getElem?_cons_succ, in_tup, in_lst, and_true, true_and, and_self, $ts,*])
variable {n : Nat} {st : Store}
theorem st_for {G : Gw} {I : SI} {b : Nat} {x0 x2 : Option D} (hb : b ∉ I.ix) : ∀ (es : List Ef) (S : Sx) (st : Store) (ls : List Str) (x3 : Option D), StAt st G I S → Sinv G S → st[b]? = some (.lst (Ss ls)) → ls.length + es.length ≤ 100 → (∀ e ∈ es, Vd G e) →
    ∃ st' z3, forGo [] (.one 4) (sSeq (sIf (mTest (mBin (dEq false) (mBin dIx (mVar 4) (mC (.int 0))) (mC (.str "stop")))) (sRet (mTup (mCons (mVar 3) (mCons (mC (.bl true)) mNil)))) sNil)
    (sIf (mTest (mBin (dEq false) (mBin dIx (mVar 4) (mC (.int 0))) (mC (.str "say")))) (sExpr (mMeth "list" dAppend (mVar 3) (mCons (mBin dIx (mVar 4) (mC (.int 1))) mNil))) (sIf (mTest (mBin (dEq false) (mBin dIx (mVar 4) (mC (.int 0))) (mC (.str "set")))) (sExpr (mMth mthF (cF (n + 4)) "set_number" (mVar 1) (mCons (mBin dIx (mVar 4) (mC (.int 1))) (mCons (mBin dIx (mVar 4) (mC (.int 2))) mNil)))) (sExpr (mCall 3 (cF (n + 4) i_move_now) (mCons (mVar 1) (mCons (mBin dIx (mVar 4) (mC (.int 1))) (mCons (mBin dIx (mVar 4) (mC (.int 2))) mNil)))))))) (es.map Ef.d) [x0, some (.ref I.me), x2, some (.ref b), x3] st
      = endE (efB es) b [x0, some (.ref I.me), x2, some (.ref b), z3] st' ∧ StAt st' G I (efS es S) ∧ st'[b]? = some (.lst (Ss (ls ++ efL es))) ∧ Gr (fun k => k ∈ I.ix ∨ k = b) st st' ∧ st'.length = st.length
  | [], S, st, ls, x3, o, inv, hl, _, _ => ⟨st, x3, for_nil, o, by rw [show ls ++ efL [] = ls by simp [efL]]; exact hl, Gr.refl, rfl⟩
  | .stop :: es, S, st, ls, x3, o, inv, hl, hn, hv => by
    refine ⟨st, x3, ?_, o, by rw [show ls ++ efL (.stop :: es) = ls by simp [efL]]; exact hl, Gr.refl, rfl⟩
    have t1 : ∀ st, dIx (Ef.stop).d (.int 0) st = .ok (.str "stop") st := fun _ => rfl
    rw [List.map_cons, for_one]
    generalize (Ef.stop).d = dd at *
    simp_arith [t1]
    rfl
  | .say t :: es, S, st, ls, x3, o, inv, hl, hn, hv => by
    have t1 : ∀ st, dIx (Ef.say t).d (.int 0) st = .ok (.str "say") st := fun _ => rfl
    have t2 : ∀ st, dIx (Ef.say t).d (.int 1) st = .ok (.str t) st := fun _ => rfl
    simp at hn
    have e1 : Ss ls ++ [.str t] = Ss (ls ++ [t]) := by simp
    have l1 : (Ss ls).length < 16777216 := by rw [List.length_map]; omega
    have e6 : ("list" == "list") = true := rfl
    obtain ⟨st', z3, g, g1, g2, g3, g4⟩ := st_for (x0 := x0) (x2 := x2) hb es S (st.set b (.lst (Ss (ls ++ [t])))) (ls ++ [t]) (some (Ef.say t).d) (o.frame fun k hk => set_at_ne fun z => hb (by rw [z]; exact hk)) inv (List.getElem?_set_self (lt_of_get hl)) (by simp; omega) (fun e he => hv e (List.mem_cons_of_mem _ he))
    refine ⟨st', z3, ?_, g1, by rw [show ls ++ efL (.say t :: es) = (ls ++ [t]) ++ efL es by simp [efL]]; exact g2, (Gr.set (.inr rfl)).trans g3, by rw [g4, List.length_set]⟩
    rw [List.map_cons, for_one]
    show _ = endE (efB es) b _ st'
    generalize (Ef.say t).d = dd at *
    simp_arith [t1, t2, ne1, e6, hl, l1, e1]
    exact g
  | .set s v :: es, S, st, ls, x3, o, inv, hl, hn, hv => by
    have t1 : ∀ st, dIx (Ef.set s v).d (.int 0) st = .ok (.str "set") st := fun _ => rfl
    have t2 : ∀ st, dIx (Ef.set s v).d (.int 1) st = .ok (.str s) st := fun _ => rfl
    have t3 : ∀ st, dIx (Ef.set s v).d (.int 2) st = .ok (.int v) st := fun _ => rfl
    simp at hn
    have v1 : Vd G (.set s v) := hv _ (List.mem_cons_self ..)
    obtain ⟨st1, e1, dd1⟩ := setn_run (n := n + 2) (x := s) (v := v) o inv.ok (by rw [inv.kc]; rcases v1.1 with rfl | rfl <;> simp [FM]) v1.2
    obtain ⟨st', z3, g, g1, g2, g3, g4⟩ := st_for (x0 := x0) (x2 := x2) hb es { S with ct := pt S.ct s v } st1 ls (some (Ef.set s v).d) dd1.at_ (inv.set v1.1) (by rw [dd1.gr.same b (lt_of_get hl) hb]; exact hl) (by omega) (fun e he => hv e (List.mem_cons_of_mem _ he))
    refine ⟨st', z3, ?_, g1, g2, (dd1.gr.imp fun k _ z => .inl z).trans g3, by rw [g4, dd1.len]⟩
    rw [List.map_cons, for_one]
    show _ = endE (efB es) b _ st'
    generalize (Ef.set s v).d = dd at *
    simp_arith [t1, t2, t3, ne2, ne3, o.me, insO_s, q_mth, mt12, lm12, e1]
    exact g
  | .move x w :: es, S, st, ls, x3, o, inv, hl, hn, hv => by
    have t1 : ∀ st, dIx (Ef.move x w).d (.int 0) st = .ok (.str "move") st := fun _ => rfl
    have t2 : ∀ st, dIx (Ef.move x w).d (.int 1) st = .ok (.str x) st := fun _ => rfl
    have t3 : ∀ st, dIx (Ef.move x w).d (.int 2) st = .ok (dW w) st := fun _ => rfl
    simp at hn
    obtain ⟨r, hr, nd, hw⟩ : Vd G (.move x w) := hv _ (List.mem_cons_self ..)
    obtain ⟨st1, e1, dd1⟩ := st_mvd (n := n) o inv hr nd hw
    obtain ⟨st', z3, g, g1, g2, g3, g4⟩ := st_for (x0 := x0) (x2 := x2) hb es (mvd S x w) st1 ls (some (Ef.move x w).d) dd1.at_ (inv.mvd (gt_ks hr) hw) (by rw [dd1.gr.same b (lt_of_get hl) hb]; exact hl) (by omega) (fun e he => hv e (List.mem_cons_of_mem _ he))
    refine ⟨st', z3, ?_, g1, g2, (dd1.gr.imp fun k _ z => .inl z).trans g3, by rw [g4, dd1.len]⟩
    rw [List.map_cons, for_one]
    show _ = endE (efB es) b _ st'
    generalize (Ef.move x w).d = dd at *
    simp_arith [t1, t2, t3, ne4, ne5, ne6, e1]
    exact g

theorem efL_len : ∀ es : List Ef, (efL es).length ≤ es.length
  | [] => by simp [efL]
  | .say t :: es => by have := efL_len es; simp [efL]; omega
  | .stop :: es => by simp [efL]
  | .set s v :: es => by have := efL_len es; simp [efL]; omega
  | .move x w :: es => by have := efL_len es; simp [efL]; omega
/-- what both tell of effects -/
theorem own_eff {G : Gw} {M : OI} {S : Sx} {a : Nat} {es : List Ef} (ha : a ∉ M.ix) (h : st[a]? = some (.lst (es.map Ef.d))) (o : OwAt st M S) (ol : ∀ k ∈ M.ix, k < st.length) (inv : Sinv G S) (hl : es.length ≤ 90) (hv : ∀ e ∈ es, Vd G e) :
    ∃ st', cF (n + 3) i__law_effects [.ref M.me, .ref a] st = .ok (.tup [.ref st.length, .bl (efB es)]) st' ∧ OwAt st' M (efS es S) ∧ st'[st.length]? = some (.lst (Ss (efL es))) ∧ Gr (fun k => k ∈ M.ix) st st' ∧ st'.length = st.length + 1 := by
  have e0 : startD N__law_effects.length [.ref M.me, .ref a] = [some (.ref M.me), some (.ref a), none, none] := rfl
  have la := lt_of_get h
  have h1 : (st ++ [Ob.lst []])[a]? = some (.lst (es.map Ef.d)) := by rw [List.getElem?_append_left la]; exact h
  have o1 : OwAt (st ++ [Ob.lst []]) M S := o.frame fun k hk => List.getElem?_append_left (ol k hk)
  obtain ⟨st', z3, g, g1, g2, g3, g4⟩ := own_for (n := n) (x1 := some (.ref a)) (b := st.length) ha (fun z => absurd (ol _ z) (by omega)) (by omega) es S (st ++ [.lst []]) [] none h1 o1 inv get_last (by simp; omega) hv
  have gr : Gr (fun k => k ∈ M.ix) st st' := ⟨by rw [g4]; simp, fun k hk hp => by
    rw [g3.same k (by simp; omega) (by intro z; rcases z with z | z; exact hp z; omega), List.getElem?_append_left hk]⟩
  refine ⟨st', ck rfl rfl B__law_effects ?_, g1, by rw [List.nil_append] at g2; exact g2, gr, by rw [g4]; simp⟩
  unfold P__law_effects
  simp_arith [e0, mkL_t, q_for, q_for1, h1]
  rw [g]
  unfold endE
  cases efB es with
  | true => rw [if_pos rfl]; rfl
  | false => rw [if_neg (by simp)]; simp_arith []
theorem st_eff {G : Gw} {I : SI} {S : Sx} {w : Nat} {es : List Ef} (h : StAt st G I S) (il : ∀ k ∈ I.ix, k < st.length) (inv : Sinv G S) (hl : es.length ≤ 90) (hv : ∀ e ∈ es, Vd G e) :
    ∃ st', cF (n + 5) i_do_effects [.ref w, .ref I.me, .tup (es.map Ef.d)] st = .ok (.tup [.ref st.length, .bl (efB es)]) st' ∧ StAt st' G I (efS es S) ∧ st'[st.length]? = some (.lst (Ss (efL es))) ∧ Gr (fun k => k ∈ I.ix) st st' ∧ st'.length = st.length + 1 := by
  have e0 : startD N_do_effects.length [.ref w, .ref I.me, .tup (es.map Ef.d)] = [some (.ref w), some (.ref I.me), some (.tup (es.map Ef.d)), none, none] := rfl
  have o1 : StAt (st ++ [Ob.lst []]) G I S := h.frame fun k hk => List.getElem?_append_left (il k hk)
  obtain ⟨st', z3, g, g1, g2, g3, g4⟩ := st_for (n := n) (x0 := some (.ref w)) (x2 := some (.tup (es.map Ef.d))) (b := st.length) (fun z => absurd (il _ z) (by omega)) es S (st ++ [.lst []]) [] none o1 inv get_last (by simp; omega) hv
  have gr : Gr (fun k => k ∈ I.ix) st st' := ⟨by rw [g4]; simp, fun k hk hp => by
    rw [g3.same k (by simp; omega) (by intro z; rcases z with z | z; exact hp z; omega), List.getElem?_append_left hk]⟩
  refine ⟨st', ck rfl rfl B_do_effects ?_, g1, by rw [List.nil_append] at g2; exact g2, gr, by rw [g4]; simp⟩
  unfold P_do_effects
  simp_arith [e0, mkL_t, q_for, q_for1]
  rw [g]
  unfold endE
  cases efB es with
  | true => rw [if_pos rfl]; rfl
  | false => rw [if_neg (by simp)]; simp_arith []
end K20
namespace K20
open PySem L2 Mi
local macro_rules
  | `(tactic| simp_arith [$ts,*]) => `(tactic| simp (disch := first | assumption | omega | (simp only [List.length_cons, List.length_nil, List.length_map, List.length_append]; done) | (simp only [List.length_cons, List.length_nil, List.length_map, List.length_append]; omega)) only [↓reduceIte, r_seq, seq_nx, seq_rt, seq_no, seq_ex, seq_bk, seq_ct, OS_turn_nx, OS_turn_ct, OS_turn_rt, OS_turn_bk, turn_ex, O_bind_ok, O_bind_ex, O_bind_no, O_toS_ok, O_toS_ex, O_toS_no, O_strict_ok, r_var0, r_varS, r_C, r_nil, r_un, r_app, r_lst, r_tup, r_yes, r_nopart, r_snil, r_break, r_cont, r_retN, q_bin, q_bin2, q_cons, q_cons1, q_cons2, q_meth, q_meth1, q_tru, q_tru1, q_truO, q_test, q_test1, q_notT, q_notT1, q_andT, q_andTt, q_andTf, q_orT, q_orTt, q_orTf, q_ifE, q_ifT, q_iteT, q_iteF, q_andV, q_andV1, q_andOt, q_andOf, q_orV, q_orV1, q_orOt, q_orOf, q_notV, q_notV1, q_notO, q_chain, q_chain1, q_chain2, q_chain3t, q_chain3f, q_part, q_part1, q_sl, q_sl1, q_sl2, q_sl3, q_items, q_items1, q_srcO, q_enum, q_enum1, q_enumO, q_pnil, q_pair, q_pair1, q_pair2, q_pair3, q_disp, q_zip, q_zip1, q_zip2, zipS_tt, zipS_ll, q_range1, q_range11, q_range2, q_range21, q_range3, q_isi, q_isi1, q_isiO, q_isc, q_isc1, q_iscO, q_call, q_call1, q_attr, q_attr1, q_attrO, q_attrO2, q_mth, q_mth1, q_mthO, q_mth2, q_mth3, q_make, q_make1, q_asg, q_asg1, q_asgO, q_expr, q_expr1, q_ret, q_ret1, q_if, q_ift, q_iff, q_whilet, q_whilef, q_atr, q_atr1, q_atr2, q_aa1, q_aa2, q_aa3, q_aa4, q_step, q_step1, q_step2, insAt_ref, q_insO, setAt_ref, q_setO, isNonO_non, putD, bindT, setD, wipeD, List.map_cons, List.map_nil, List.replicate, List.set_cons_zero, List.set_cons_succ, List.cons_append, List.nil_append, List.append_nil, List.length_cons, List.length_nil, Nat.reduceAdd, Nat.reduceSub, Nat.reduceEqDiff, Nat.reduceLT, Int.reduceLT, Int.reduceLE, Int.reduceEq, Nat.zero_add, Nat.add_zero, e_ints, e_bls, e_strs, sgnT, sgnF, l_ints, a_ints, s_ints, tru_bl, len_str, ty_str, ty_int, ty_bl, ty_non, ty_lst, ty_tup, ty_frz, ty_dct, tyOf_ref, lt_ii, gt_ii, ge_ii, neg_i, is_non, isNon_non, isNon_str, isNon_lst, isNon_tup, isNon_ref, isNon_int, lstOf_ref, lstOf_lst, lstOf_frz, seqOf_tup, seqOf_frz, seqOf_lst, seqOf_ref, listOf_frz, listOf_lst, listOf_ref, listG_frz, listG_lst, listG_ref, items_lst, items_frz, items_tup, items_str, items_ref, rdOf_ref, rdOf_lst, rdOf_tup, rdOf_frz, rdOf_str, rdOf_dct, dctOf_ref, dctOf_lst, dctOf_tup, dctOf_frz, dctOf_str, dctOf_dct, len_lst, len_tup, len_frz, len_ref, list_any, tuple_tup, tuple_lst, tuple_frz, tuple_ref, int_int, int_bl, mkL_t, mkL_f, mkT_ok, append_ref, clear_ref, if_sz, tyD_ref, tyD_str, tyD_lst, add_lr, add_rl, add_rr, add_ll, add_tt, add_ss, mod_ii, div_ii, mul_ii, List.lookup_cons, beq_self_eq_true, Bool.and_true, Bool.true_and, Bool.or_true, Bool.true_or, Bool.false_or, Bool.or_false, Bool.false_and, Bool.and_false, Bool.not_true, Bool.not_false, Bool.false_eq_true, Bool.true_eq_false, Option.isSome_some, Option.isSome_none, Option.map_some, Option.map_none, decide_true, decide_false, if_true, if_false, get_at, get_at_add, set_at, set_at_add, List.append_assoc, List.getElem?_cons_zero, List.getElem?_cons_succ, in_tup, in_lst, and_true, true_and, and_self, $ts,*])
variable {n : Nat} {st : Store}
/-! ### conditions, on both -/
theorem get_kv {l : List (Str × Bool)} {i : Nat} {k : Str} (h : st[i]? = some (.dct (kv D.bl l))) : dGet (.ref i) [.str k, .bl false] st = .ok (.bl ((gt l k).getD false)) st := by
  have q : dctOf st (.ref i) = some (kv D.bl l) := by
    show (match st[i]? with
      | some (.dct xs) => some xs
      | _ => none) = _
    rw [h]
  unfold dGet
  rw [q]
  show O.ok ((valD (kv D.bl l) (.inr k)).getD (.bl false)) st = _
  rw [val_kv]
  cases gt l k <;> rfl
section
variable {G : Gw} {I : SI} {S : Sx} {M : OI}
theorem isopen_run (h : StAt st G I S) {t : Str} (ht : t ∈ ks (rl G.rows)) : cF (n + 2) i_M_State_is_open [.ref I.me, .str t] st = .ok (.bl ((gt S.ld t).getD false)) st := by
  refine cp rfl rfl B_M_State_is_open ?_ rfl
  have e0 : startD N_M_State_is_open.length [.ref I.me, .str t] = [some (.ref I.me), some (.str t)] := rfl
  have e1 := need_run (n := n) h ht
  have e2 := get_kv (k := t) h.ld
  have e3 : ("dict" == "dict") = true := rfl
  have e4 := h.ld
  unfold P_M_State_is_open
  simp_arith [e0, h.me, insO_s, q_attr, q_mth, mt1, lm1, e1, fs8, ls8, e2, e3, e4]
theorem isworn_run (h : StAt st G I S) (inv : Sinv G S) {t : Str} (ht : t ∈ ks (rl G.rows)) : cF (n + 2) i_M_State_is_worn [.ref I.me, .str t] st = .ok (.bl false) st := by
  refine cp rfl rfl B_M_State_is_worn ?_ rfl
  have e0 : startD N_M_State_is_worn.length [.ref I.me, .str t] = [some (.ref I.me), some (.str t)] := rfl
  have e1 := need_run (n := n) h ht
  obtain ⟨v, hv⟩ := gt_some (l := S.dr) (k := t) (by rw [inv.ok.kd]; exact ht)
  have hf := inv.df _ (gt_mem hv)
  dsimp only at hf
  subst hf
  have e2 := ix_kv (rd_ref h.dr) hv
  unfold P_M_State_is_worn
  simp_arith [e0, h.me, insO_s, q_attr, q_mth, mt1, lm1, e1, fs9, ls9, e2]
theorem here_run (h : StAt st G I S) : cF (n + 1) i_M_State_here [.ref I.me] st = .ok (.str S.spot) st := by
  refine cp rfl rfl B_M_State_here ?_ rfl
  have e0 : startD N_M_State_here.length [.ref I.me] = [some (.ref I.me)] := rfl
  unfold P_M_State_here
  simp_arith [e0, h.me, insO_s, q_attr, fs5, ls5]
def AIO : List Str := ["at", "in", "on"]
theorem aio_eq : D.tup [.str "at", .str "in", .str "on"] = .tup (Ss AIO) := rfl
theorem dW2 (a b : Str) : D.tup [.str a, .str b] = dW [a, b] := rfl
theorem dW1 (a : Str) : D.tup [.str a] = dW [a] := rfl
theorem cnd_run (h : StAt st G I S) (o : OwAt st M S) (inv : Sinv G S) {w : Nat} {d : D} (c : Cnd G.rows d) : ∃ b : Bool, (∀ n, cF (n + 1) i__law_holds [.ref M.me, d] st = .ok (.bl b) st) ∧ ∀ n, cF (n + 3) i_holds_now [.ref w, .ref I.me, d] st = .ok (.bl b) st := by
  have e0 : ∀ d, startD N__law_holds.length [.ref M.me, d] = [some (.ref M.me), some d, none, none, none, none, none] := fun _ => rfl
  have f0 : ∀ d, startD N_holds_now.length [.ref w, .ref I.me, d] = [some (.ref w), some (.ref I.me), some d, none, none, none, none, none] := fun _ => rfl
  cases c with
  | you b p =>
    have c1 : ¬ ("you" : Str) = "is" := by decide +kernel
    have e1 := o_here o.me
    have e2 := fun n => here_run (n := n + 1) h
    refine ⟨!decide (decide (S.spot = p) = b), fun n => cp rfl rfl B__law_holds ?_ rfl, fun n => cp rfl rfl B_holds_now ?_ rfl⟩
    · unfold P__law_holds
      simp_arith [e0, c1, e1]
    · have eN := e2 n
      unfold P_holds_now
      simp_arith [f0, c1, h.me, insO_s, q_mth, mt15, lm15, eN]
  | is b s v hs =>
    obtain ⟨u, hu⟩ := gt_some (l := S.ct) (k := s) (by rw [inv.kc]; rcases hs with rfl | rfl <;> simp [FM])
    have e1 := o_count o.me
    have e2 := ix_kv (rd_ref o.ct) hu
    have e3 := fun n => num_run (n := n + 1) h hu
    refine ⟨!decide (decide (u = v) = b), fun n => cp rfl rfl B__law_holds ?_ rfl, fun n => cp rfl rfl B_holds_now ?_ rfl⟩
    · unfold P__law_holds
      simp_arith [e0, e1, e2]
    · have eN := e3 n
      unfold P_holds_now
      simp_arith [f0, h.me, insO_s, q_mth, mt6, lm6, eN]
  | opn b t ht =>
    have c1 : ¬ ("open" : Str) = "is" := by decide +kernel
    have c2 : ¬ ("open" : Str) = "you" := by decide +kernel
    have e1 := o_open o.me
    have e2 := get_kv (k := t) o.ld
    have e3 : ("dict" == "dict") = true := rfl
    have e4 := fun n => isopen_run (n := n) h ht
    have e5 := o.ld
    refine ⟨!decide ((gt S.ld t).getD false = b), fun n => cp rfl rfl B__law_holds ?_ rfl, fun n => cp rfl rfl B_holds_now ?_ rfl⟩
    · unfold P__law_holds
      simp_arith [e0, c1, c2, e1, e2, e3, e5]
    · have eN := e4 n
      unfold P_holds_now
      simp_arith [f0, c1, c2, h.me, insO_s, q_mth, mt16, lm16, eN]
  | wrn b t ht =>
    have c1 : ¬ ("worn" : Str) = "is" := by decide +kernel
    have c2 : ¬ ("worn" : Str) = "you" := by decide +kernel
    have c3 : ¬ ("worn" : Str) = "open" := by decide +kernel
    have e1 := o_worn o.me
    have e2 : dIn false (.str t) (.ref M.wn) st = .ok (.bl false) st := by
      have q1 : rdOf st (.ref M.wn) = none := by
        show (match st[M.wn]? with
          | some (.dct xs) => some xs
          | some (.lck xs) => some xs
          | _ => none) = none
        rw [o.wn]
      unfold dIn
      dsimp only
      rw [q1, deep_ref o.wn]
      rfl
    have e4 := fun n => isworn_run (n := n) h inv ht
    refine ⟨!decide (false = b), fun n => cp rfl rfl B__law_holds ?_ rfl, fun n => cp rfl rfl B_holds_now ?_ rfl⟩
    · unfold P__law_holds
      simp_arith [e0, c1, c2, c3, e1, e2]
    · have eN := e4 n
      unfold P_holds_now
      simp_arith [f0, c1, c2, c3, h.me, insO_s, q_mth, mt17, lm17, eN]
  | two b s t x hs ht =>
    have c1 : ¬ s = "is" := by rcases hs with rfl | rfl | rfl <;> decide +kernel
    have c2 : ¬ s = "you" := by rcases hs with rfl | rfl | rfl <;> decide +kernel
    have c3 : ¬ s = "open" := by rcases hs with rfl | rfl | rfl <;> decide +kernel
    have c4 : ¬ s = "worn" := by rcases hs with rfl | rfl | rfl <;> decide +kernel
    have c5 : s ∈ AIO := by rcases hs with rfl | rfl | rfl <;> decide +kernel
    obtain ⟨wt, hw⟩ := gt_some (l := S.wh) (k := t) (by rw [inv.ok.kw]; exact ht)
    have e1 := o_where o.me
    have e2 := ix_kv (rd_ref o.wh) hw
    have e3 := in_tup (st := st) false s AIO
    have e4 := eq_dW (st := st) (a := wt) (b := [s, x]) false
    have e5 := fun n => where_run (n := n) h ht hw
    refine ⟨!decide (decide (wt = [s, x]) = b), fun n => cp rfl rfl B__law_holds ?_ rfl, fun n => cp rfl rfl B_holds_now ?_ rfl⟩
    · unfold P__law_holds
      simp_arith [e0, c1, c2, c3, c4, e1, e2, aio_eq, e3, c5, dW2, e4]
    · have eN := e5 n
      unfold P_holds_now
      simp_arith [f0, c1, c2, c3, c4, h.me, insO_s, q_mth, mt2, lm2, aio_eq, e3, c5, eN, dW2, e4]
  | one b s t hs ht =>
    have c1 : ¬ s = "is" := by rcases hs with rfl | rfl <;> decide +kernel
    have c2 : ¬ s = "you" := by rcases hs with rfl | rfl <;> decide +kernel
    have c3 : ¬ s = "open" := by rcases hs with rfl | rfl <;> decide +kernel
    have c4 : ¬ s = "worn" := by rcases hs with rfl | rfl <;> decide +kernel
    have c5 : ¬ s ∈ AIO := by rcases hs with rfl | rfl <;> decide +kernel
    obtain ⟨wt, hw⟩ := gt_some (l := S.wh) (k := t) (by rw [inv.ok.kw]; exact ht)
    have e1 := o_where o.me
    have e2 := ix_kv (rd_ref o.wh) hw
    have e3 := in_tup (st := st) false s AIO
    have e4 := eq_dW (st := st) (a := wt) (b := [s]) false
    have e5 := fun n => where_run (n := n) h ht hw
    refine ⟨!decide (decide (wt = [s]) = b), fun n => cp rfl rfl B__law_holds ?_ rfl, fun n => cp rfl rfl B_holds_now ?_ rfl⟩
    · unfold P__law_holds
      simp_arith [e0, c1, c2, c3, c4, e1, e2, aio_eq, e3, c5, dW1, e4]
    · have eN := e5 n
      unfold P_holds_now
      simp_arith [f0, c1, c2, c3, c4, h.me, insO_s, q_mth, mt2, lm2, aio_eq, e3, c5, eN, dW1, e4]
end
end K20
namespace K20
open PySem L2 Mi
local macro_rules
  | `(tactic| simp_arith [$ts,*]) => `(tactic| simp (disch := first | assumption | omega | (simp only [List.length_cons, List.length_nil, List.length_map, List.length_append]; done) | (simp only [List.length_cons, List.length_nil, List.length_map, List.length_append]; omega)) only [↓reduceIte, r_seq, seq_nx, seq_rt, seq_no, seq_ex, seq_bk, seq_ct, OS_turn_nx, OS_turn_ct, OS_turn_rt, OS_turn_bk, turn_ex, O_bind_ok, O_bind_ex, O_bind_no, O_toS_ok, O_toS_ex, O_toS_no, O_strict_ok, r_var0, r_varS, r_C, r_nil, r_un, r_app, r_lst, r_tup, r_yes, r_nopart, r_snil, r_break, r_cont, r_retN, q_bin, q_bin2, q_cons, q_cons1, q_cons2, q_meth, q_meth1, q_tru, q_tru1, q_truO, q_test, q_test1, q_notT, q_notT1, q_andT, q_andTt, q_andTf, q_orT, q_orTt, q_orTf, q_ifE, q_ifT, q_iteT, q_iteF, q_andV, q_andV1, q_andOt, q_andOf, q_orV, q_orV1, q_orOt, q_orOf, q_notV, q_notV1, q_notO, q_chain, q_chain1, q_chain2, q_chain3t, q_chain3f, q_part, q_part1, q_sl, q_sl1, q_sl2, q_sl3, q_items, q_items1, q_srcO, q_enum, q_enum1, q_enumO, q_pnil, q_pair, q_pair1, q_pair2, q_pair3, q_disp, q_zip, q_zip1, q_zip2, zipS_tt, zipS_ll, q_range1, q_range11, q_range2, q_range21, q_range3, q_isi, q_isi1, q_isiO, q_isc, q_isc1, q_iscO, q_call, q_call1, q_attr, q_attr1, q_attrO, q_attrO2, q_mth, q_mth1, q_mthO, q_mth2, q_mth3, q_make, q_make1, q_asg, q_asg1, q_asgO, q_expr, q_expr1, q_ret, q_ret1, q_if, q_ift, q_iff, q_whilet, q_whilef, q_atr, q_atr1, q_atr2, q_aa1, q_aa2, q_aa3, q_aa4, q_step, q_step1, q_step2, insAt_ref, q_insO, setAt_ref, q_setO, isNonO_non, putD, bindT, setD, wipeD, List.map_cons, List.map_nil, List.replicate, List.set_cons_zero, List.set_cons_succ, List.cons_append, List.nil_append, List.append_nil, List.length_cons, List.length_nil, Nat.reduceAdd, Nat.reduceSub, Nat.reduceEqDiff, Nat.reduceLT, Int.reduceLT, Int.reduceLE, Int.reduceEq, Nat.zero_add, Nat.add_zero, e_ints, e_bls, e_strs, sgnT, sgnF, l_ints, a_ints, s_ints, tru_bl, len_str, ty_str, ty_int, ty_bl, ty_non, ty_lst, ty_tup, ty_frz, ty_dct, tyOf_ref, lt_ii, gt_ii, ge_ii, neg_i, is_non, isNon_non, isNon_str, isNon_lst, isNon_tup, isNon_ref, isNon_int, lstOf_ref, lstOf_lst, lstOf_frz, seqOf_tup, seqOf_frz, seqOf_lst, seqOf_ref, listOf_frz, listOf_lst, listOf_ref, listG_frz, listG_lst, listG_ref, items_lst, items_frz, items_tup, items_str, items_ref, rdOf_ref, rdOf_lst, rdOf_tup, rdOf_frz, rdOf_str, rdOf_dct, dctOf_ref, dctOf_lst, dctOf_tup, dctOf_frz, dctOf_str, dctOf_dct, len_lst, len_tup, len_frz, len_ref, list_any, tuple_tup, tuple_lst, tuple_frz, tuple_ref, int_int, int_bl, mkL_t, mkL_f, mkT_ok, append_ref, clear_ref, if_sz, tyD_ref, tyD_str, tyD_lst, add_lr, add_rl, add_rr, add_ll, add_tt, add_ss, mod_ii, div_ii, mul_ii, List.lookup_cons, beq_self_eq_true, Bool.and_true, Bool.true_and, Bool.or_true, Bool.true_or, Bool.false_or, Bool.or_false, Bool.false_and, Bool.and_false, Bool.not_true, Bool.not_false, Bool.false_eq_true, Bool.true_eq_false, Option.isSome_some, Option.isSome_none, Option.map_some, Option.map_none, decide_true, decide_false, if_true, if_false, get_at, get_at_add, set_at, set_at_add, List.append_assoc, List.getElem?_cons_zero, List.getElem?_cons_succ, in_tup, in_lst, and_true, true_and, and_self, $ts,*])
variable {n : Nat} {st : Store}
/-! ### what the tale is like -/
theorem nm_inj : ∀ i < 10, ∀ j < 10, NM.getD i "" = NM.getD j "" → i = j := by decide +kernel
theorem Wf.names {rooms : List Str} {rows : List Row} (h : Wf rooms rows) : ∀ (i : Nat) (r : Row), rows[i]? = some r → r.name = NM.getD i "" := by
  induction h with
  | nil => intro i r h; simp at h
  | @snoc rows wh trs h wo tk dr ih =>
    intro i r' e
    by_cases hi : i < rows.length
    · rw [List.getElem?_append_left hi] at e; exact ih i r' e
    · rw [List.getElem?_append_right (by omega)] at e
      have : i - rows.length = 0 := by
        have := (List.getElem?_eq_some_iff.mp e).1
        simp at this; omega
      rw [this] at e
      cases e
      rw [show i = rows.length by omega]
theorem Wf.good {rooms : List Str} {rows : List Row} (h : Wf rooms rows) : rows.length ≤ 9 → Good (whs rows) ∧ (rows.map (·.name)).Nodup := by
  induction h with
  | nil => intro _; exact ⟨fun t ht => by simp [ks, whs] at ht, by simp⟩
  | @snoc rows wh trs h wo tk dr ih =>
    intro hl
    simp at hl
    obtain ⟨g, nd⟩ := ih (by omega)
    have hk : NM.getD rows.length "" ∉ rows.map (·.name) := fun z => by
      obtain ⟨r', hr, e⟩ := List.mem_map.mp z
      obtain ⟨i, hi, e2⟩ := List.getElem_of_mem hr
      have e3 := h.names i r' (by rw [List.getElem?_eq_getElem hi, e2])
      rw [e3] at e
      have := nm_inj _ (by omega) _ (by omega) e
      omega
    refine ⟨?_, ?_⟩
    · have e : whs (rows ++ [⟨NM.getD rows.length "", NM.getD rows.length "", [], wh, trs⟩]) = whs rows ++ [(NM.getD rows.length "", wh)] := by simp [whs]
      rw [e]
      refine g.snoc (by rw [ks_whs]; exact hk) ?_
      clear e dr
      cases wo with
      | place hp => exact .inl (.inl ⟨_, rfl⟩)
      | mine => exact .inl (.inr (.inl rfl))
      | away => exact .inl (.inr (.inr rfl))
      | box hr hb => exact .inr ⟨_, .inl rfl, by rw [ks_whs]; exact List.mem_map.mpr ⟨_, hr, rfl⟩⟩
      | stand hr hb => exact .inr ⟨_, .inr rfl, by rw [ks_whs]; exact List.mem_map.mpr ⟨_, hr, rfl⟩⟩
    · rw [List.map_append, List.nodup_append]
      refine ⟨nd, by simp, fun a ha b hb z => ?_⟩
      have : b = NM.getD rows.length "" := by simpa using hb
      exact hk (by rw [← this, ← z]; exact ha)
theorem fx_name (used : List Str) (r : Row) : (fx used r).name = r.name := by unfold fx; split <;> rfl
theorem fx_wh (used : List Str) (r : Row) : (fx used r).wh = r.wh := by unfold fx; split <;> rfl
section
variable {rooms : List Str} {pl : List (Str × Bool)} {rows : List Row} {ways : List Way} {us : List D} (T : Tale rooms pl rows ways us)
include T
theorem Tale.facts : Good (whs rows) ∧ (rows.map (·.name)).Nodup ∧ 2 ≤ rows.length ∧ rows.length ≤ 9 := by
  obtain ⟨rows0, used, h1, rfl, h2, h3⟩ := T.rw
  obtain ⟨g, nd⟩ := h1.good h3
  have e1 : whs (rows0.map (fx used)) = whs rows0 := by
    unfold whs
    rw [List.map_map]
    refine List.map_congr_left fun r _ => ?_
    show ((fx used r).name, (fx used r).wh) = _
    rw [fx_name, fx_wh]
  have e2 : (rows0.map (fx used)).map (·.name) = rows0.map (·.name) := by
    rw [List.map_map]
    exact List.map_congr_left fun r _ => fx_name used r
  rw [e1, e2, List.length_map]
  exact ⟨g, nd, h2, h3⟩
theorem Tale.plnd : mg [] pl = pl := mg_nodup pl [] (by
  show (ks pl).Nodup
  unfold ks
  rw [T.pl]
  exact T.rm.nd)
theorem Tale.wr {w : Nat} {x : List Str} (h : WhOk rooms rows x) : Wr (G0 w rows pl ways) x := by
  have gr : ∀ r ∈ rows, gt (rl rows) r.name = some r := fun r hr => gt_nodup (by rw [ks_rl]; exact T.facts.2.1) (List.mem_map.mpr ⟨r, hr, rfl⟩)
  cases h with
  | place h => exact .place (by
      show _ ∈ ks (mg [] pl)
      rw [T.plnd]
      unfold ks
      rw [T.pl]
      exact h)
  | mine => exact .mine
  | away => exact .away
  | @box r h hb => exact .box (r := r) (gr r h) hb
  | @stand r h hb => exact .stand (r := r) (gr r h) hb
theorem Tale.eff {w : Nat} {d : D} (h : Eff rooms rows d) : ∃ e : Ef, d = e.d ∧ Vd (G0 w rows pl ways) e := by
  cases h with
  | say t => exact ⟨.say t, rfl, trivial⟩
  | set s v hs hv => exact ⟨.set s v, rfl, hs, hv⟩
  | stop => exact ⟨.stop, rfl, trivial⟩
  | move t x ht hw =>
    obtain ⟨r, hr, rfl, nd⟩ := ht
    exact ⟨.move r.name x, rfl, r, gt_nodup (by show (ks (rl rows)).Nodup; rw [ks_rl]; exact T.facts.2.1) (List.mem_map.mpr ⟨r, hr, rfl⟩), nd, T.wr hw⟩
theorem Tale.effs {w : Nat} : ∀ {ds : List D}, (∀ d ∈ ds, Eff rooms rows d) → ∃ es : List Ef, ds = es.map Ef.d ∧ ∀ e ∈ es, Vd (G0 w rows pl ways) e
  | [], _ => ⟨[], rfl, fun e he => by simp at he⟩
  | d :: ds, h => by
    obtain ⟨e, rfl, hv⟩ := T.eff (w := w) (h d (List.mem_cons_self ..))
    obtain ⟨es, rfl, hvs⟩ := Tale.effs (w := w) (ds := ds) fun x hx => h x (List.mem_cons_of_mem _ hx)
    exact ⟨e :: es, rfl, fun x hx => by
      rcases List.mem_cons.mp hx with rfl | hx
      · exact hv
      · exact hvs x hx⟩
theorem Tale.inv {w : Nat} {p : Str} : Sinv (G0 w rows pl ways) (S0 p rows STS) := by
  obtain ⟨g, nd, h2, h3⟩ := T.facts
  refine ⟨s0_ok T.rok (by omega) (by decide), by show (ks (rl rows)).Nodup; rw [ks_rl]; exact nd, ?_, g, ?_, rfl⟩
  · show ks (mg [] STS) = FM
    decide +kernel
  · intro q hq
    obtain ⟨r, _, rfl⟩ := List.mem_map.mp (show q ∈ drs rows from hq)
    rfl
end
end K20
namespace K20
open PySem L2 Mi
local macro_rules
  | `(tactic| simp_arith [$ts,*]) => `(tactic| simp (disch := first | assumption | omega | (simp only [List.length_cons, List.length_nil, List.length_map, List.length_append]; done) | (simp only [List.length_cons, List.length_nil, List.length_map, List.length_append]; omega)) only [↓reduceIte, r_seq, seq_nx, seq_rt, seq_no, seq_ex, seq_bk, seq_ct, OS_turn_nx, OS_turn_ct, OS_turn_rt, OS_turn_bk, turn_ex, O_bind_ok, O_bind_ex, O_bind_no, O_toS_ok, O_toS_ex, O_toS_no, O_strict_ok, r_var0, r_varS, r_C, r_nil, r_un, r_app, r_lst, r_tup, r_yes, r_nopart, r_snil, r_break, r_cont, r_retN, q_bin, q_bin2, q_cons, q_cons1, q_cons2, q_meth, q_meth1, q_tru, q_tru1, q_truO, q_test, q_test1, q_notT, q_notT1, q_andT, q_andTt, q_andTf, q_orT, q_orTt, q_orTf, q_ifE, q_ifT, q_iteT, q_iteF, q_andV, q_andV1, q_andOt, q_andOf, q_orV, q_orV1, q_orOt, q_orOf, q_notV, q_notV1, q_notO, q_chain, q_chain1, q_chain2, q_chain3t, q_chain3f, q_part, q_part1, q_sl, q_sl1, q_sl2, q_sl3, q_items, q_items1, q_srcO, q_enum, q_enum1, q_enumO, q_pnil, q_pair, q_pair1, q_pair2, q_pair3, q_disp, q_zip, q_zip1, q_zip2, zipS_tt, zipS_ll, q_range1, q_range11, q_range2, q_range21, q_range3, q_isi, q_isi1, q_isiO, q_isc, q_isc1, q_iscO, q_call, q_call1, q_attr, q_attr1, q_attrO, q_attrO2, q_mth, q_mth1, q_mthO, q_mth2, q_mth3, q_make, q_make1, q_asg, q_asg1, q_asgO, q_expr, q_expr1, q_ret, q_ret1, q_if, q_ift, q_iff, q_whilet, q_whilef, q_atr, q_atr1, q_atr2, q_aa1, q_aa2, q_aa3, q_aa4, q_step, q_step1, q_step2, insAt_ref, q_insO, setAt_ref, q_setO, isNonO_non, putD, bindT, setD, wipeD, List.map_cons, List.map_nil, List.replicate, List.set_cons_zero, List.set_cons_succ, List.cons_append, List.nil_append, List.append_nil, List.length_cons, List.length_nil, Nat.reduceAdd, Nat.reduceSub, Nat.reduceEqDiff, Nat.reduceLT, Int.reduceLT, Int.reduceLE, Int.reduceEq, Nat.zero_add, Nat.add_zero, e_ints, e_bls, e_strs, sgnT, sgnF, l_ints, a_ints, s_ints, tru_bl, len_str, ty_str, ty_int, ty_bl, ty_non, ty_lst, ty_tup, ty_frz, ty_dct, tyOf_ref, lt_ii, gt_ii, ge_ii, neg_i, is_non, isNon_non, isNon_str, isNon_lst, isNon_tup, isNon_ref, isNon_int, lstOf_ref, lstOf_lst, lstOf_frz, seqOf_tup, seqOf_frz, seqOf_lst, seqOf_ref, listOf_frz, listOf_lst, listOf_ref, listG_frz, listG_lst, listG_ref, items_lst, items_frz, items_tup, items_str, items_ref, rdOf_ref, rdOf_lst, rdOf_tup, rdOf_frz, rdOf_str, rdOf_dct, dctOf_ref, dctOf_lst, dctOf_tup, dctOf_frz, dctOf_str, dctOf_dct, len_lst, len_tup, len_frz, len_ref, list_any, tuple_tup, tuple_lst, tuple_frz, tuple_ref, int_int, int_bl, mkL_t, mkL_f, mkT_ok, append_ref, clear_ref, if_sz, tyD_ref, tyD_str, tyD_lst, add_lr, add_rl, add_rr, add_ll, add_tt, add_ss, mod_ii, div_ii, mul_ii, List.lookup_cons, beq_self_eq_true, Bool.and_true, Bool.true_and, Bool.or_true, Bool.true_or, Bool.false_or, Bool.or_false, Bool.false_and, Bool.and_false, Bool.not_true, Bool.not_false, Bool.false_eq_true, Bool.true_eq_false, Option.isSome_some, Option.isSome_none, Option.map_some, Option.map_none, decide_true, decide_false, if_true, if_false, get_at, get_at_add, set_at, set_at_add, List.append_assoc, List.getElem?_cons_zero, List.getElem?_cons_succ, in_tup, in_lst, and_true, true_and, and_self, $ts,*])
variable {n : Nat} {st : Store}
/-! ### the law's own at first -/
def lidOf (r : Row) : List (Str × Bool) := if ("box" : Str) ∈ r.trs ∨ ("door" : Str) ∈ r.trs then [(r.name, !decide (("shut" : Str) ∈ r.trs))] else []
theorem lids_cons (r : Row) (rows : List Row) : lidsOf (r :: rows) = lidOf r ++ lidsOf rows := by
  unfold lidsOf lidOf
  by_cases c1 : ("box" : Str) ∈ r.trs
  · simp [c1]
  · by_cases c2 : ("door" : Str) ∈ r.trs <;> simp [c1, c2]
theorem mg_app {β : Type} (acc a b : List (Str × β)) : mg acc (a ++ b) = mg (mg acc a) b := by unfold mg; rw [List.foldl_append]
theorem begin_for {b : Nat} {x0 x7 x8 : Option D} : ∀ (rows : List Row) (acc : List (Str × Bool)) (st : Store) (x2 x3 x4 x5 x6 : Option D), st[b]? = some (.dct (kv D.bl acc)) → acc.length + rows.length ≤ 900 →
    ∃ z2 z3 z4 z5 z6, forGo [] (.many [2, 3, 4, 5, 6]) (sIf (mOrT (mTest (mBin (dIn false) (mC (.str "box")) (mVar 6))) (mTest (mBin (dIn false) (mC (.str "door")) (mVar 6)))) (sSto (mBin (dIn true) (mC (.str "shut")) (mVar 6)) (mVar 1) (mVar 2)) sNil) (Rs rows) [x0, some (.ref b), x2, x3, x4, x5, x6, x7, x8] st
      = .nx [x0, some (.ref b), z2, z3, z4, z5, z6, x7, x8] (st.set b (.dct (kv D.bl (mg acc (lidsOf rows)))))
  | [], acc, st, x2, x3, x4, x5, x6, h, _ => ⟨x2, x3, x4, x5, x6, by rw [show mg acc (lidsOf []) = acc by simp [lidsOf, mg], set_same h]; exact for_nil⟩
  | r :: rows, acc, st, x2, x3, x4, x5, x6, h, hl => by
    simp at hl
    have e1 : Rs (r :: rows) = .tup [.str r.name, .str r.noun, .tup (Ss r.adjs), .tup (Ss r.wh), .tup (Ss r.trs)] :: Rs rows := rfl
    rw [e1, for_many rfl]
    rw [lids_cons, mg_app]
    by_cases c : ("box" : Str) ∈ r.trs ∨ ("door" : Str) ∈ r.trs
    · have e2 : mg acc (lidOf r) = pt acc r.name (!decide (("shut" : Str) ∈ r.trs)) := by unfold lidOf; rw [if_pos c]; rfl
      have e3 := fun ρ => sto_kv (f := D.bl) (v := !decide (("shut" : Str) ∈ r.trs)) (k := r.name) (ρ := ρ) h (by omega)
      have l3 : (pt acc r.name (!decide (("shut" : Str) ∈ r.trs))).length ≤ acc.length + 1 := by
        unfold pt
        split
        · rw [List.length_map]; omega
        · simp
      obtain ⟨z2, z3, z4, z5, z6, g⟩ := begin_for (x0 := x0) (x7 := x7) (x8 := x8) rows (pt acc r.name (!decide (("shut" : Str) ∈ r.trs))) (st.set b (.dct (kv D.bl (pt acc r.name (!decide (("shut" : Str) ∈ r.trs)))))) (some (.str r.name)) (some (.str r.noun)) (some (.tup (Ss r.adjs))) (some (.tup (Ss r.wh))) (some (.tup (Ss r.trs))) (List.getElem?_set_self (lt_of_get h)) (by omega)
      refine ⟨z2, z3, z4, z5, z6, ?_⟩
      rw [List.set_set] at g
      rw [e2]
      show ((_ : MS) [x0, some (.ref b), some (.str r.name), some (.str r.noun), some (.tup (Ss r.adjs)), some (.tup (Ss r.wh)), some (.tup (Ss r.trs)), x7, x8] st).turn _ = _
      by_cases c1 : ("box" : Str) ∈ r.trs
      · simp_arith [c1, q_sto, q_sto1, q_sto2, q_sto3, e3]
        exact g
      · have c2 := c.resolve_left c1
        simp_arith [c1, c2, q_sto, q_sto1, q_sto2, q_sto3, e3]
        exact g
    · have e2 : mg acc (lidOf r) = acc := by unfold lidOf; rw [if_neg c]; rfl
      rw [e2]
      rw [not_or] at c
      have c1 := c.1
      have c2 := c.2
      obtain ⟨z2, z3, z4, z5, z6, g⟩ := begin_for (x0 := x0) (x7 := x7) (x8 := x8) rows acc st (some (.str r.name)) (some (.str r.noun)) (some (.tup (Ss r.adjs))) (some (.tup (Ss r.wh))) (some (.tup (Ss r.trs))) h (by omega)
      refine ⟨z2, z3, z4, z5, z6, ?_⟩
      show ((_ : MS) [x0, some (.ref b), some (.str r.name), some (.str r.noun), some (.tup (Ss r.adjs)), some (.tup (Ss r.wh)), some (.tup (Ss r.trs)), x7, x8] st).turn _ = _
      simp_arith [c1, c2]
      exact g
theorem disp_own {M : OI} {p : Str} : kDisp true [(.str "here", .str p), (.str "where", .ref M.wh), (.str "open", .ref M.ld), (.str "worn", .ref M.wn), (.str "count", .ref M.ct)] st = .ok (.ref st.length) (st ++ [.dct (ofs M p)]) := by
  have hk : keysD [(.str "here", .str p), (.str "where", .ref M.wh), (.str "open", .ref M.ld), (.str "worn", .ref M.wn), (.str "count", .ref M.ct)] = some (ofs M p) := rfl
  have e : ofs M p = kv (id : D → D) [("here", .str p), ("where", .ref M.wh), ("open", .ref M.ld), ("worn", .ref M.wn), ("count", .ref M.ct)] := rfl
  have hm : mergeD [] (ofs M p) = ofs M p := by
    rw [e, show ([] : List (Key × D)) = kv (id : D → D) [] from rfl, merge_kv, mg_nodup]
    · rfl
    · show ([("here" : Str), "where", "open", "worn", "count"]).Nodup
      decide +kernel
  unfold kDisp
  rw [hk]
  unfold dispO
  dsimp only
  rw [if_pos (by show 5 ≤ 15; decide), hm]
  rfl
def MI (b : Nat) : OI := ⟨b + 4, b + 1, b, b + 2, b + 3⟩
theorem begin_run {p : Str × Bool} {pl : List (Str × Bool)} {rows : List Row} {ways : List Way} {us : List D} (hl : rows.length ≤ 12) (nd : (rows.map (·.name)).Nodup) :
    cF (n + 1) i__law_begin [tlD (p :: pl) rows ways us] st = .ok (.ref (st.length + 4)) (st ++ [.dct (kv D.bl (lidsOf rows)), .dct (kv dW (whs rows)), .lst [], .dct (kv D.int (mg [] STS)), .dct (ofs (MI st.length) p.1)]) := by
  have m0 : ∀ st', dIx (tlD (p :: pl) rows ways us) (.int 0) st' = .ok (.lst (Ps (p :: pl))) st' := fun _ => rfl
  have m1 : ∀ st', dIx (tlD (p :: pl) rows ways us) (.int 1) st' = .ok (.lst (Rs rows)) st' := fun _ => rfl
  have m3 : ∀ st', dIx (tlD (p :: pl) rows ways us) (.int 3) st' = .ok (.lst (STS.map Sd)) st' := fun _ => rfl
  generalize tlD (p :: pl) rows ways us = d at *
  have e0 : startD N__law_begin.length [d] = [some d, none, none, none, none, none, none, none, none] := rfl
  have lP : (Ps (p :: pl)).length = pl.length + 1 := by simp [Ps]
  have t4 : ∀ st', dIx (.lst (Ps (p :: pl))) (.int 0) st' = .ok (Pd p) st' := fun st' => by rw [ix_lst (by decide) (by rw [lP]; omega)]; rfl
  have t5 : ∀ st', dIx (Pd p) (.int 0) st' = .ok (.str p.1) st' := fun _ => rfl
  have ndW : mg [] (whs rows) = whs rows := mg_nodup (whs rows) [] (by rw [List.nil_append, ks_whs]; exact nd)
  have ndL : mg [] (lidsOf rows) = lidsOf rows := mg_nodup (lidsOf rows) [] (by rw [List.nil_append, ks_lids]; exact sub_nodup _ _ nd)
  obtain ⟨z2, z3, z4, z5, z6, g⟩ := begin_for (b := st.length) (x0 := some d) (x7 := none) (x8 := none) rows [] (st ++ [.dct []]) none none none none none get_last (by simp; omega)
  rw [ndL, show (st ++ [Ob.dct []]).set st.length (.dct (kv D.bl (lidsOf rows))) = st ++ [.dct (kv D.bl (lidsOf rows))] by rw [set_at]; rfl] at g
  have q2 : ∀ st' : Store, mLc false (mItems (mBin dIx (mVar 0) (mC (.int 1)))) (.one 8) [8] mYes (mTup (mCons (mBin dIx (mVar 8) (mC (.int 0))) (mCons (mBin dIx (mVar 8) (mC (.int 3))) mNil))) [some d, some (.ref st.length), z2, z3, z4, z5, z6, none, none] st' = .ok (.lst (rows.map fun r => .tup [.str r.name, dW r.wh])) st' := fun st' => by
    refine mLc_all (enc := Row.d) (g := []) (xs := rows) ?_ (guard_nil _) (by unfold sizeLine; omega) fun r hr' => ⟨_, rfl, rfl⟩
    simp_arith [m1]
    rfl
  have c2 : ∀ st' : Store, dDict true [.lst (rows.map fun r => .tup [.str r.name, dW r.wh])] st' = .ok (.ref st'.length) (st' ++ [.dct (kv dW (whs rows))]) := fun st' => by
    have z := made_kv (st := st') dW (whs rows) (by unfold whs; rw [List.length_map]; omega) (by rw [ndW]; unfold whs; rw [List.length_map]; omega)
    rw [ndW, show (whs rows).map (fun p => D.tup [.str p.1, dW p.2]) = rows.map fun r => .tup [.str r.name, dW r.wh] by unfold whs; rw [List.map_map]; rfl] at z
    exact z
  have c6 : ∀ st', dDict true [.lst (STS.map Sd)] st' = .ok (.ref st'.length) (st' ++ [.dct (kv D.int (mg [] STS))]) := fun st' => made_kv (st := st') D.int STS (by decide) (by decide +kernel)
  refine ck rfl rfl B__law_begin ?_
  have ln : ∀ l : List Ob, (st ++ l).length = st.length + l.length := fun l => List.length_append
  have mk0 : mkD true [] st = .ok (.ref st.length) (st ++ [.dct []]) := rfl
  have dd := disp_own (st := st ++ [Ob.dct (kv D.bl (lidsOf rows)), .dct (kv dW (whs rows)), .lst [], .dct (kv D.int (mg [] STS))]) (M := MI st.length) (p := p.1)
  unfold P__law_begin
  rw [e0]
  refine run_seq (ρ1 := [some d, some (.ref st.length), none, none, none, none, none, none, none]) (st1 := st ++ [.dct []]) ?_ ?_
  · rw [q_asg, mk0]
    rfl
  refine run_seq (ρ1 := [some d, some (.ref st.length), z2, z3, z4, z5, z6, none, none]) (st1 := st ++ [.dct (kv D.bl (lidsOf rows))]) ?_ ?_
  · simp_arith [q_for, q_for1, m1]
    exact g
  generalize kv D.bl (lidsOf rows) = KL at *
  generalize kv dW (whs rows) = KW at *
  generalize kv D.int (mg [] STS) = KC at *
  simp_arith [q2, c2, c6, m0, t4, t5, m3, mkL_t, ln]
  refine (congrArg (fun o : O D => o.toS [some d, some (.ref st.length), z2, z3, z4, z5, z6, some (.ref (st.length + 1)), none] kRet) dd).trans ?_
  show OS.rt (.ref (st ++ [Ob.dct KL, .dct KW, .lst [], .dct KC]).length) ((st ++ [Ob.dct KL, .dct KW, .lst [], .dct KC]) ++ [.dct (ofs (MI st.length) p.1)]) = _
  rw [ln, List.append_assoc]
  rfl
end K20
namespace K20
open PySem L2 Mi
local macro_rules
  | `(tactic| simp_arith [$ts,*]) => `(tactic| simp (disch := first | assumption | omega | (simp only [List.length_cons, List.length_nil, List.length_map, List.length_append]; done) | (simp only [List.length_cons, List.length_nil, List.length_map, List.length_append]; omega)) only [↓reduceIte, r_seq, seq_nx, seq_rt, seq_no, seq_ex, seq_bk, seq_ct, OS_turn_nx, OS_turn_ct, OS_turn_rt, OS_turn_bk, turn_ex, O_bind_ok, O_bind_ex, O_bind_no, O_toS_ok, O_toS_ex, O_toS_no, O_strict_ok, r_var0, r_varS, r_C, r_nil, r_un, r_app, r_lst, r_tup, r_yes, r_nopart, r_snil, r_break, r_cont, r_retN, q_bin, q_bin2, q_cons, q_cons1, q_cons2, q_meth, q_meth1, q_tru, q_tru1, q_truO, q_test, q_test1, q_notT, q_notT1, q_andT, q_andTt, q_andTf, q_orT, q_orTt, q_orTf, q_ifE, q_ifT, q_iteT, q_iteF, q_andV, q_andV1, q_andOt, q_andOf, q_orV, q_orV1, q_orOt, q_orOf, q_notV, q_notV1, q_notO, q_chain, q_chain1, q_chain2, q_chain3t, q_chain3f, q_part, q_part1, q_sl, q_sl1, q_sl2, q_sl3, q_items, q_items1, q_srcO, q_enum, q_enum1, q_enumO, q_pnil, q_pair, q_pair1, q_pair2, q_pair3, q_disp, q_zip, q_zip1, q_zip2, zipS_tt, zipS_ll, q_range1, q_range11, q_range2, q_range21, q_range3, q_isi, q_isi1, q_isiO, q_isc, q_isc1, q_iscO, q_call, q_call1, q_attr, q_attr1, q_attrO, q_attrO2, q_mth, q_mth1, q_mthO, q_mth2, q_mth3, q_make, q_make1, q_asg, q_asg1, q_asgO, q_expr, q_expr1, q_ret, q_ret1, q_if, q_ift, q_iff, q_whilet, q_whilef, q_atr, q_atr1, q_atr2, q_aa1, q_aa2, q_aa3, q_aa4, q_step, q_step1, q_step2, insAt_ref, q_insO, setAt_ref, q_setO, isNonO_non, putD, bindT, setD, wipeD, List.map_cons, List.map_nil, List.replicate, List.set_cons_zero, List.set_cons_succ, List.cons_append, List.nil_append, List.append_nil, List.length_cons, List.length_nil, Nat.reduceAdd, Nat.reduceSub, Nat.reduceEqDiff, Nat.reduceLT, Int.reduceLT, Int.reduceLE, Int.reduceEq, Nat.zero_add, Nat.add_zero, e_ints, e_bls, e_strs, sgnT, sgnF, l_ints, a_ints, s_ints, tru_bl, len_str, ty_str, ty_int, ty_bl, ty_non, ty_lst, ty_tup, ty_frz, ty_dct, tyOf_ref, lt_ii, gt_ii, ge_ii, neg_i, is_non, isNon_non, isNon_str, isNon_lst, isNon_tup, isNon_ref, isNon_int, lstOf_ref, lstOf_lst, lstOf_frz, seqOf_tup, seqOf_frz, seqOf_lst, seqOf_ref, listOf_frz, listOf_lst, listOf_ref, listG_frz, listG_lst, listG_ref, items_lst, items_frz, items_tup, items_str, items_ref, rdOf_ref, rdOf_lst, rdOf_tup, rdOf_frz, rdOf_str, rdOf_dct, dctOf_ref, dctOf_lst, dctOf_tup, dctOf_frz, dctOf_str, dctOf_dct, len_lst, len_tup, len_frz, len_ref, list_any, tuple_tup, tuple_lst, tuple_frz, tuple_ref, int_int, int_bl, mkL_t, mkL_f, mkT_ok, append_ref, clear_ref, if_sz, tyD_ref, tyD_str, tyD_lst, add_lr, add_rl, add_rr, add_ll, add_tt, add_ss, mod_ii, div_ii, mul_ii, List.lookup_cons, beq_self_eq_true, Bool.and_true, Bool.true_and, Bool.or_true, Bool.true_or, Bool.false_or, Bool.or_false, Bool.false_and, Bool.and_false, Bool.not_true, Bool.not_false, Bool.false_eq_true, Bool.true_eq_false, Option.isSome_some, Option.isSome_none, Option.map_some, Option.map_none, decide_true, decide_false, if_true, if_false, get_at, get_at_add, set_at, set_at_add, List.append_assoc, List.getElem?_cons_zero, List.getElem?_cons_succ, in_tup, in_lst, and_true, true_and, and_self, $ts,*])
variable {n : Nat} {st : Store}
/-! ### what both tell -/
theorem efS_ld : ∀ (es : List Ef) (S : Sx), (efS es S).ld = S.ld ∧ (efS es S).spot = S.spot
  | [], S => ⟨rfl, rfl⟩
  | .say t :: es, S => efS_ld es S
  | .stop :: es, S => ⟨rfl, rfl⟩
  | .set s v :: es, S => efS_ld es _
  | .move x w :: es, S => by
    have h := efS_ld es (mvd S x w)
    have e : (mvd S x w).ld = S.ld ∧ (mvd S x w).spot = S.spot := by unfold mvd; split <;> exact ⟨rfl, rfl⟩
    exact ⟨h.1.trans e.1, h.2.trans e.2⟩
theorem on_false {l : List (Str × Bool)} (h : ∀ p ∈ l, p.2 = false) : on l = [] := by
  unfold on
  rw [List.filter_eq_nil_iff]
  intro x hx
  obtain ⟨v, hv⟩ := gt_some hx
  have := h _ (gt_mem hv)
  rw [hv]
  dsimp only at this
  simp [this]
theorem filter_names {f : Str → Bool} {p : Row → Bool} : ∀ rows : List Row, (∀ r ∈ rows, f r.name = true → p r = true) → ((rows.filter p).map (·.name)).filter f = (rows.map (·.name)).filter f
  | [], _ => rfl
  | r :: rows, h => by
    have ih := filter_names rows fun q hq => h q (List.mem_cons_of_mem _ hq)
    cases hp : p r with
    | true =>
      rw [List.filter_cons_of_pos hp, List.map_cons, List.map_cons, List.filter_cons, List.filter_cons, ih]
    | false =>
      have hf : f r.name = false := by
        cases q : f r.name with
        | false => rfl
        | true => rw [h r (List.mem_cons_self ..) q] at hp; cases hp
      rw [List.filter_cons_of_neg (by simp [hp]), ih, List.map_cons, List.filter_cons_of_neg (by simp [hf])]
theorem name_inj {rows : List Row} (nd : (rows.map (·.name)).Nodup) {a b : Row} (ha : a ∈ rows) (hb : b ∈ rows) (e : a.name = b.name) : a = b := by
  have h1 : gt (rl rows) a.name = some a := gt_nodup (by rw [ks_rl]; exact nd) (List.mem_map.mpr ⟨a, ha, rfl⟩)
  have h2 : gt (rl rows) b.name = some b := gt_nodup (by rw [ks_rl]; exact nd) (List.mem_map.mpr ⟨b, hb, rfl⟩)
  rw [e, h2] at h1
  cases h1
  rfl
theorem on_lids {rows : List Row} (nd : (rows.map (·.name)).Nodup) : on (lidsOf rows) = (rows.map (·.name)).filter fun x => (gt (lidsOf rows) x).getD false := by
  unfold on
  rw [ks_lids]
  refine filter_names rows fun r hr h => ?_
  have hk : r.name ∈ ks (lidsOf rows) := by
    cases q : gt (lidsOf rows) r.name with
    | none => rw [q] at h; cases h
    | some v => exact gt_ks q
  rw [ks_lids] at hk
  obtain ⟨r', h1, h2⟩ := List.mem_map.mp hk
  obtain ⟨h3, h4⟩ := List.mem_filter.mp h1
  rw [← name_inj nd h3 hr h2]
  exact h4
theorem vals_at {β : Type} (f : β → D) (dv : β) {l : List (Str × β)} (nd : (ks l).Nodup) : ((ks l).map fun x => f ((gt l x).getD dv)) = l.map fun p => f p.2 := by
  unfold ks
  rw [List.map_map]
  refine List.map_congr_left fun p hp => ?_
  show f ((gt l p.1).getD dv) = _
  rw [gt_nodup nd hp]
  rfl
theorem ltold_run {G : Gw} {M : OI} {S : Sx} {pl : List (Str × Bool)} {rows : List Row} {ways : List Way} {us : List D} (o : OwAt st M S) (inv : Sinv G S) (hG : G.rows = rows) (hl : S.ld = lidsOf rows) (hn : (rows.map (·.name)).Nodup) :
    cF (n + 1) i__law_told_state [tlD pl rows ways us, .ref M.me, .int 0] st = .ok (tld S) st := by
  refine cp rfl rfl B__law_told_state ?_ ((tld_tr inv.ok).fz (by decide))
  have m1 : ∀ st', dIx (tlD pl rows ways us) (.int 1) st' = .ok (.lst (Rs rows)) st' := fun _ => rfl
  have m3 : ∀ st', dIx (tlD pl rows ways us) (.int 3) st' = .ok (.lst (STS.map Sd)) st' := fun _ => rfl
  generalize tlD pl rows ways us = d at *
  have e0 : startD N__law_told_state.length [d, .ref M.me, .int 0] = [some d, some (.ref M.me), some (.int 0), none, none, none, none, none, none] := rfl
  have lr := inv.ok.lr
  rw [hG] at lr
  have kw : ks S.wh = rows.map (·.name) := by rw [inv.ok.kw, hG, ks_rl]
  have e1 : mLc false (mItems (mBin dIx (mVar 0) (mC (.int 1)))) (.one 4) [4] mYes (mBin dIx (mVar 4) (mC (.int 0))) [some d, some (.ref M.me), some (.int 0), none, none, none, none, none, none] st = .ok (.lst (Ss (ks S.wh))) st := by
    rw [kw, show Ss (rows.map (·.name)) = rows.map fun r => D.str r.name by show List.map D.str (List.map _ _) = _; rw [List.map_map]; rfl]
    refine mLc_all (enc := Row.d) (g := []) (xs := rows) ?_ (guard_nil _) (by unfold sizeLine; omega) fun r _ => ⟨_, rfl, rfl⟩
    simp_arith [m1]
    rfl
  have lk : (ks S.wh).length ≤ 12 := by rw [kw, List.length_map]; exact lr
  have f1 := o_open o.me
  have f2 := o_worn o.me
  have f3 := o_count o.me
  have f4 := o_where o.me
  have f5 := o_here o.me
  have e3 : ("dict" == "dict") = true := rfl
  have e5 := o.ld
  have e2 : ∀ (x5 x6 x7 : Option D), mLc false (mItems (mVar 3)) (.one 4) [4] (mTru (mMeth "dict" dGet (mBin dIx (mVar 1) (mC (.str "open"))) (mCons (mVar 4) (mCons (mC (.bl false)) mNil)))) (mVar 4) [some d, some (.ref M.me), some (.int 0), some (.lst (Ss (ks S.wh))), none, x5, x6, x7, none] st = .ok (.lst (Ss (on S.ld))) st := fun x5 x6 x7 => by
    rw [hl, on_lids hn, ← kw, ← hl]
    refine mLc_map (enc := D.str) (g := []) (xs := ks S.wh) (p := fun x => (gt S.ld x).getD false) (f := D.str) rfl (guard_nil _) (by unfold sizeLine; omega) fun x hx => ⟨_, rfl, ?_, fun _ => rfl⟩
    have q := get_kv (k := x) o.ld
    simp_arith [f1, q, e3, e5]
  have e4 : ∀ (x5 x6 x7 : Option D), mLc false (mItems (mVar 3)) (.one 4) [4] (mTest (mBin (dIn false) (mVar 4) (mBin dIx (mVar 1) (mC (.str "worn"))))) (mVar 4) [some d, some (.ref M.me), some (.int 0), some (.lst (Ss (ks S.wh))), none, x5, x6, x7, none] st = .ok (.lst []) st := fun x5 x6 x7 => by
    have z : ((ks S.wh).filter fun _ => false).map D.str = [] := by simp
    rw [← z]
    refine mLc_map (enc := D.str) (g := []) (xs := ks S.wh) (p := fun _ => false) (f := D.str) rfl (guard_nil _) (by unfold sizeLine; omega) fun x hx => ⟨_, rfl, ?_, fun _ => rfl⟩
    have q2 : dIn false (.str x) (.ref M.wn) st = .ok (.bl false) st := by
      have q1 : rdOf st (.ref M.wn) = none := by
        show (match st[M.wn]? with
          | some (.dct xs) => some xs
          | some (.lck xs) => some xs
          | _ => none) = none
        rw [o.wn]
      unfold dIn
      dsimp only
      rw [q1, deep_ref o.wn]
      rfl
    simp_arith [f2, q2]
  have e6 : ∀ (x5 x6 x7 : Option D), mLc false (mItems (mBin dIx (mVar 0) (mC (.int 3)))) (.one 8) [8] mYes (mBin dIx (mBin dIx (mVar 1) (mC (.str "count"))) (mBin dIx (mVar 8) (mC (.int 0)))) [some d, some (.ref M.me), some (.int 0), some (.lst (Ss (ks S.wh))), none, x5, x6, x7, none] st = .ok (.lst (S.ct.map fun p => .int p.2)) st := fun x5 x6 x7 => by
    have z : (S.ct.map fun p => D.int p.2) = STS.map fun q => D.int ((gt S.ct q.1).getD 0) := by
      rw [← vals_at D.int 0 (by rw [inv.kc]; decide +kernel), inv.kc]
      rfl
    rw [z]
    refine mLc_all (enc := Sd) (g := []) (xs := STS) ?_ (guard_nil _) (by decide) fun q hq => ⟨_, rfl, ?_⟩
    · simp_arith [m3]
    · obtain ⟨v, hv⟩ := gt_some (l := S.ct) (k := q.1) (by rw [inv.kc]; exact List.mem_map.mpr ⟨q, hq, rfl⟩)
      have q2 := ix_kv (rd_ref o.ct) hv
      have q3 : dIx (Sd q) (.int 0) st = .ok (.str q.1) st := rfl
      simp_arith [f3, q2, q3, hv]
      rfl
  have e7 : ∀ (x5 x6 x7 : Option D), mLc false (mItems (mVar 3)) (.one 4) [4] mYes (mBin dIx (mBin dIx (mVar 1) (mC (.str "where"))) (mVar 4)) [some d, some (.ref M.me), some (.int 0), some (.lst (Ss (ks S.wh))), none, x5, x6, x7, none] st = .ok (.lst (S.wh.map fun p => dW p.2)) st := fun x5 x6 x7 => by
    rw [← vals_at dW [] (by rw [kw]; exact hn)]
    refine mLc_all (enc := D.str) (g := []) (xs := ks S.wh) rfl (guard_nil _) (by unfold sizeLine; omega) fun x hx => ⟨_, rfl, ?_⟩
    obtain ⟨v, hv⟩ := gt_some hx
    have q2 := ix_kv (rd_ref o.wh) hv
    simp_arith [f4, q2, hv]
    rfl
  have l1 := inv.ok.lwh
  have l2 := on_len S.ld
  have l3 := inv.ok.ll
  have l4 := inv.ok.lc
  have z1 : (Ss (on S.ld)).length ≤ 16777216 := by rw [List.length_map]; omega
  have z2 : (S.ct.map fun p => D.int p.2).length ≤ 16777216 := by rw [List.length_map]; omega
  have z3 : (S.wh.map fun p => dW p.2).length ≤ 16777216 := by rw [List.length_map]; omega
  unfold tld
  rw [on_false inv.df, inv.mo]
  unfold P__law_told_state
  simp_arith [e0, e1, e2, z1, e4, e6, z2, e7, z3, f5]
end K20
namespace K20
open PySem L2 Mi
local macro_rules
  | `(tactic| simp_arith [$ts,*]) => `(tactic| simp (disch := first | assumption | omega | (simp only [List.length_cons, List.length_nil, List.length_map, List.length_append]; done) | (simp only [List.length_cons, List.length_nil, List.length_map, List.length_append]; omega)) only [↓reduceIte, r_seq, seq_nx, seq_rt, seq_no, seq_ex, seq_bk, seq_ct, OS_turn_nx, OS_turn_ct, OS_turn_rt, OS_turn_bk, turn_ex, O_bind_ok, O_bind_ex, O_bind_no, O_toS_ok, O_toS_ex, O_toS_no, O_strict_ok, r_var0, r_varS, r_C, r_nil, r_un, r_app, r_lst, r_tup, r_yes, r_nopart, r_snil, r_break, r_cont, r_retN, q_bin, q_bin2, q_cons, q_cons1, q_cons2, q_meth, q_meth1, q_tru, q_tru1, q_truO, q_test, q_test1, q_notT, q_notT1, q_andT, q_andTt, q_andTf, q_orT, q_orTt, q_orTf, q_ifE, q_ifT, q_iteT, q_iteF, q_andV, q_andV1, q_andOt, q_andOf, q_orV, q_orV1, q_orOt, q_orOf, q_notV, q_notV1, q_notO, q_chain, q_chain1, q_chain2, q_chain3t, q_chain3f, q_part, q_part1, q_sl, q_sl1, q_sl2, q_sl3, q_items, q_items1, q_srcO, q_enum, q_enum1, q_enumO, q_pnil, q_pair, q_pair1, q_pair2, q_pair3, q_disp, q_zip, q_zip1, q_zip2, zipS_tt, zipS_ll, q_range1, q_range11, q_range2, q_range21, q_range3, q_isi, q_isi1, q_isiO, q_isc, q_isc1, q_iscO, q_call, q_call1, q_attr, q_attr1, q_attrO, q_attrO2, q_mth, q_mth1, q_mthO, q_mth2, q_mth3, q_make, q_make1, q_asg, q_asg1, q_asgO, q_expr, q_expr1, q_ret, q_ret1, q_if, q_ift, q_iff, q_whilet, q_whilef, q_atr, q_atr1, q_atr2, q_aa1, q_aa2, q_aa3, q_aa4, q_step, q_step1, q_step2, insAt_ref, q_insO, setAt_ref, q_setO, isNonO_non, putD, bindT, setD, wipeD, List.map_cons, List.map_nil, List.replicate, List.set_cons_zero, List.set_cons_succ, List.cons_append, List.nil_append, List.append_nil, List.length_cons, List.length_nil, Nat.reduceAdd, Nat.reduceSub, Nat.reduceEqDiff, Nat.reduceLT, Int.reduceLT, Int.reduceLE, Int.reduceEq, Nat.zero_add, Nat.add_zero, e_ints, e_bls, e_strs, sgnT, sgnF, l_ints, a_ints, s_ints, tru_bl, len_str, ty_str, ty_int, ty_bl, ty_non, ty_lst, ty_tup, ty_frz, ty_dct, tyOf_ref, lt_ii, gt_ii, ge_ii, neg_i, is_non, isNon_non, isNon_str, isNon_lst, isNon_tup, isNon_ref, isNon_int, lstOf_ref, lstOf_lst, lstOf_frz, seqOf_tup, seqOf_frz, seqOf_lst, seqOf_ref, listOf_frz, listOf_lst, listOf_ref, listG_frz, listG_lst, listG_ref, items_lst, items_frz, items_tup, items_str, items_ref, rdOf_ref, rdOf_lst, rdOf_tup, rdOf_frz, rdOf_str, rdOf_dct, dctOf_ref, dctOf_lst, dctOf_tup, dctOf_frz, dctOf_str, dctOf_dct, len_lst, len_tup, len_frz, len_ref, list_any, tuple_tup, tuple_lst, tuple_frz, tuple_ref, int_int, int_bl, mkL_t, mkL_f, mkT_ok, append_ref, clear_ref, if_sz, tyD_ref, tyD_str, tyD_lst, add_lr, add_rl, add_rr, add_ll, add_tt, add_ss, mod_ii, div_ii, mul_ii, List.lookup_cons, beq_self_eq_true, Bool.and_true, Bool.true_and, Bool.or_true, Bool.true_or, Bool.false_or, Bool.or_false, Bool.false_and, Bool.and_false, Bool.not_true, Bool.not_false, Bool.false_eq_true, Bool.true_eq_false, Option.isSome_some, Option.isSome_none, Option.map_some, Option.map_none, decide_true, decide_false, if_true, if_false, get_at, get_at_add, set_at, set_at_add, List.append_assoc, List.getElem?_cons_zero, List.getElem?_cons_succ, in_tup, in_lst, and_true, true_and, and_self, $ts,*])
variable {n : Nat} {st : Store}
/-! ### a tree is equal to itself -/
theorem eqAll_self {xs : List D} (h : ∀ x ∈ xs, eqD x x = true) : PyData.eqvAll (toPys xs) (toPys xs) = true := by
  induction xs with
  | nil => rfl
  | cons x r ih =>
    show PyData.eqvAll (toPy x :: toPys r) (toPy x :: toPys r) = true
    rw [PyData.eqvAll, ih fun y hy => h y (List.mem_cons_of_mem _ hy), show PyData.eqv (toPy x) (toPy x) = true from h x (List.mem_cons_self ..)]
    rfl
theorem eqD_bl (a b : Bool) : eqD (.bl a) (.bl b) = decide (a = b) := by cases a <;> cases b <;> rfl
theorem Tr.self {k : Nat} {d : D} (h : Tr k d) : eqD d d = true := by
  induction h with
  | str k s => rw [eqD_str]; exact decide_eq_true rfl
  | non k => rfl
  | int k i => rw [eqD_int]; exact decide_eq_true rfl
  | bl k b => rw [eqD_bl]; exact decide_eq_true rfl
  | tup h hl ih => exact eqAll_self ih
  | lst h hl ih => exact eqAll_self ih
theorem eq_self {d : D} {k : Nat} (h : Tr k d) (hk : k ≤ 64) (ng : Bool) : dEq ng d d st = .ok (.bl (!ng)) st := by
  unfold dEq
  rw [h.deep hk]
  show O.ok (D.bl (if ng = true then !eqD d d else eqD d d)) st = _
  rw [h.self]
  cases ng <;> rfl
/-! ### conditions -/
open Classical in
noncomputable def vb (st : Store) (m i : Nat) (w : Nat) (d : D) : Bool :=
  if h : ∃ b : Bool, (∀ n, cF (n + 1) i__law_holds [.ref m, d] st = .ok (.bl b) st) ∧ ∀ n, cF (n + 3) i_holds_now [.ref w, .ref i, d] st = .ok (.bl b) st then h.choose else false
section
variable {G : Gw} {I : SI} {S : Sx} {M : OI} {w : Nat}
theorem vb_is (h : StAt st G I S) (o : OwAt st M S) (inv : Sinv G S) {d : D} (c : Cnd G.rows d) : (∀ n, cF (n + 1) i__law_holds [.ref M.me, d] st = .ok (.bl (vb st M.me I.me w d)) st) ∧ ∀ n, cF (n + 3) i_holds_now [.ref w, .ref I.me, d] st = .ok (.bl (vb st M.me I.me w d)) st := by
  have q := cnd_run (w := w) h o inv c
  unfold vb
  rw [dif_pos q]
  exact q.choose_spec
theorem bools_bl {α : Type} (f : α → Bool) (xs : List α) : boolsD (xs.map fun x => D.bl (f x)) = some (xs.map f) := by
  induction xs with
  | nil => rfl
  | cons x r ih =>
    show (boolsD (r.map fun x => D.bl (f x))).map (f x :: ·) = _
    rw [ih]
    rfl
theorem all_bl {α : Type} (f : α → Bool) (xs : List α) : dAllAny true [.lst (xs.map fun x => D.bl (f x))] st = .ok (.bl (xs.all f)) st := by
  show (match boolsD (xs.map fun x => D.bl (f x)) with
    | some bs => O.ok (D.bl (if true = true then bs.all id else bs.any id)) st
    | none => .no) = _
  rw [bools_bl]
  simp
theorem bls_tr {α : Type} (f : α → Bool) (xs : List α) (hl : xs.length ≤ 1000) : Tr 2 (.lst (xs.map fun x => D.bl (f x))) := .lst (fun x hx => by
  obtain ⟨y, _, rfl⟩ := List.mem_map.mp hx
  exact .bl _ _) (by rw [List.length_map]; exact hl)
theorem nin_bls {α : Type} (f : α → Bool) (xs : List α) (hl : xs.length ≤ 1000) : dIn true (.bl false) (.lst (xs.map fun x => D.bl (f x))) st = .ok (.bl (xs.all f)) st := by
  show (match deep 64 st (.bl false), deep 64 st (.lst (xs.map fun x => D.bl (f x))) with
      | some x, some (.lst ys) => O.ok (D.bl (sgn true (ys.any fun y => eqD y x))) st
      | _, _ => .no) = _
  rw [(bls_tr f xs hl).deep (by decide), show deep 64 st (.bl false) = some (.bl false) from rfl]
  dsimp only
  rw [show sgn true ((xs.map fun x => D.bl (f x)).any fun y => eqD y (.bl false)) = xs.all f by
    show (!((xs.map fun x => D.bl (f x)).any fun y => eqD y (.bl false))) = _
    rw [List.any_map]
    induction xs with
    | nil => rfl
    | cons x r ih =>
      rw [List.any_cons, List.all_cons, Bool.not_or, ih (by simp at hl; omega)]
      congr 1
      show (!eqD (.bl (f x)) (.bl false)) = f x
      rw [eqD_bl]
      cases f x <;> rfl]
theorem hall_run (h : StAt st G I S) (o : OwAt st M S) (inv : Sinv G S) {cs : List D} (hl : cs.length ≤ 1000) (hc : ∀ c ∈ cs, Cnd G.rows c) : cF (n + 4) i_holds_all [.ref w, .ref I.me, .tup cs] st = .ok (.bl (cs.all (vb st M.me I.me w))) st := by
  refine cp rfl rfl B_holds_all ?_ rfl
  have e0 : startD N_holds_all.length [.ref w, .ref I.me, .tup cs] = [some (.ref w), some (.ref I.me), some (.tup cs), none] := rfl
  have e1 : mLc false (mItems (mVar 2)) (.one 3) [3] mYes (mCall 3 (cF (n + 3) i_holds_now) (mCons (mVar 0) (mCons (mVar 1) (mCons (mVar 3) mNil)))) [some (.ref w), some (.ref I.me), some (.tup cs), none] st = .ok (.lst (cs.map fun d => .bl (vb st M.me I.me w d))) st := by
    refine mLc_all (enc := id) (g := []) (xs := cs) (by rw [List.map_id]; rfl) (guard_nil _) (by unfold sizeLine; omega) fun d hd => ⟨_, rfl, ?_⟩
    have q := (vb_is (w := w) h o inv (hc d hd)).2 n
    simp_arith [id, q]
  have e2 := all_bl (st := st) (vb st M.me I.me w) cs
  unfold P_holds_all
  simp_arith [e0, e1, e2]
theorem cright_run (h : StAt st G I S) (o : OwAt st M S) (inv : Sinv G S) {cs : List D} (hl : cs.length ≤ 1000) (hc : ∀ c ∈ cs, Cnd G.rows c) : cF (n + 5) i__law_conditions_right [.ref w, .ref I.me, .ref M.me, .tup cs] st = .ok (.bl true) st := by
  refine cp rfl rfl B__law_conditions_right ?_ rfl
  have e0 : startD N__law_conditions_right.length [.ref w, .ref I.me, .ref M.me, .tup cs] = [some (.ref w), some (.ref I.me), some (.ref M.me), some (.tup cs), none, none, none] := rfl
  have e1 : mLc false (mItems (mVar 3)) (.one 5) [5] mYes (mCall 2 (cF (n + 4) i__law_holds) (mCons (mVar 2) (mCons (mVar 5) mNil))) [some (.ref w), some (.ref I.me), some (.ref M.me), some (.tup cs), none, none, none] st = .ok (.lst (cs.map fun d => .bl (vb st M.me I.me w d))) st := by
    refine mLc_all (enc := id) (g := []) (xs := cs) (by rw [List.map_id]; rfl) (guard_nil _) (by unfold sizeLine; omega) fun d hd => ⟨_, rfl, ?_⟩
    have q := (vb_is (w := w) h o inv (hc d hd)).1 (n + 3)
    simp_arith [id, q]
  have e2 : ∀ x4, mLc false (mItems (mVar 3)) (.one 5) [5] mYes (mCall 3 (cF (n + 4) i_holds_now) (mCons (mVar 0) (mCons (mVar 1) (mCons (mVar 5) mNil)))) [some (.ref w), some (.ref I.me), some (.ref M.me), some (.tup cs), x4, none, none] st = .ok (.lst (cs.map fun d => .bl (vb st M.me I.me w d))) st := fun x4 => by
    refine mLc_all (enc := id) (g := []) (xs := cs) (by rw [List.map_id]; rfl) (guard_nil _) (by unfold sizeLine; omega) fun d hd => ⟨_, rfl, ?_⟩
    have q := (vb_is (w := w) h o inv (hc d hd)).2 (n + 1)
    simp_arith [id, q]
  have e3 := eq_self (st := st) (bls_tr (vb st M.me I.me w) cs hl) (by decide) true
  have e4 : mLc false (mItems (mVar 6)) (.one 5) [5] (mNotT (mTru (mIsi ["bool"] (mVar 5)))) (mVar 5) [some (.ref w), some (.ref I.me), some (.ref M.me), some (.tup cs), some (.lst (cs.map fun d => .bl (vb st M.me I.me w d))), none, some (.lst (cs.map fun d => .bl (vb st M.me I.me w d)))] st = .ok (.lst []) st := by
    have z : (cs.filter fun _ => false).map (fun d => D.bl (vb st M.me I.me w d)) = [] := by simp
    rw [← z]
    refine mLc_map (enc := fun d => D.bl (vb st M.me I.me w d)) (g := []) (xs := cs) (p := fun _ => false) (f := fun d => D.bl (vb st M.me I.me w d)) rfl (guard_nil _) (by unfold sizeLine; omega) fun d hd => ⟨_, rfl, ?_, fun z => by cases z⟩
    have q : (["bool"].any (subT "bool")) = true := by decide
    simp_arith [q]
  have e5 : dEq true (.lst []) (.lst []) st = .ok (.bl false) st := rfl
  have e6 := hall_run (n := n) (w := w) h o inv hl hc
  have e7 := hall_run (n := n) (w := w) h o inv (cs := []) (by simp) (by simp)
  have e8 := nin_bls (st := st) (vb st M.me I.me w) cs hl
  have e9 : ([] : List D).all (vb st M.me I.me w) = true := rfl
  rw [e9] at e7
  have e10 : dIs false (.bl true) (.bl true) st = .ok (.bl true) st := rfl
  generalize (cs.map fun d => D.bl (vb st M.me I.me w d)) = L at *
  generalize cs.all (vb st M.me I.me w) = b at *
  unfold P__law_conditions_right
  simp_arith [e0, e1, e2, e3, e4, e5, e6, e7, e8, e10]
end
end K20
namespace K20
open PySem L2 Mi
local macro_rules
  | `(tactic| simp_arith [$ts,*]) => `(tactic| simp (disch := first | assumption | omega | (simp only [List.length_cons, List.length_nil, List.length_map, List.length_append]; done) | (simp only [List.length_cons, List.length_nil, List.length_map, List.length_append]; omega)) only [↓reduceIte, r_seq, seq_nx, seq_rt, seq_no, seq_ex, seq_bk, seq_ct, OS_turn_nx, OS_turn_ct, OS_turn_rt, OS_turn_bk, turn_ex, O_bind_ok, O_bind_ex, O_bind_no, O_toS_ok, O_toS_ex, O_toS_no, O_strict_ok, r_var0, r_varS, r_C, r_nil, r_un, r_app, r_lst, r_tup, r_yes, r_nopart, r_snil, r_break, r_cont, r_retN, q_bin, q_bin2, q_cons, q_cons1, q_cons2, q_meth, q_meth1, q_tru, q_tru1, q_truO, q_test, q_test1, q_notT, q_notT1, q_andT, q_andTt, q_andTf, q_orT, q_orTt, q_orTf, q_ifE, q_ifT, q_iteT, q_iteF, q_andV, q_andV1, q_andOt, q_andOf, q_orV, q_orV1, q_orOt, q_orOf, q_notV, q_notV1, q_notO, q_chain, q_chain1, q_chain2, q_chain3t, q_chain3f, q_part, q_part1, q_sl, q_sl1, q_sl2, q_sl3, q_items, q_items1, q_srcO, q_enum, q_enum1, q_enumO, q_pnil, q_pair, q_pair1, q_pair2, q_pair3, q_disp, q_zip, q_zip1, q_zip2, zipS_tt, zipS_ll, q_range1, q_range11, q_range2, q_range21, q_range3, q_isi, q_isi1, q_isiO, q_isc, q_isc1, q_iscO, q_call, q_call1, q_attr, q_attr1, q_attrO, q_attrO2, q_mth, q_mth1, q_mthO, q_mth2, q_mth3, q_make, q_make1, q_asg, q_asg1, q_asgO, q_expr, q_expr1, q_ret, q_ret1, q_if, q_ift, q_iff, q_whilet, q_whilef, q_atr, q_atr1, q_atr2, q_aa1, q_aa2, q_aa3, q_aa4, q_step, q_step1, q_step2, insAt_ref, q_insO, setAt_ref, q_setO, isNonO_non, putD, bindT, setD, wipeD, List.map_cons, List.map_nil, List.replicate, List.set_cons_zero, List.set_cons_succ, List.cons_append, List.nil_append, List.append_nil, List.length_cons, List.length_nil, Nat.reduceAdd, Nat.reduceSub, Nat.reduceEqDiff, Nat.reduceLT, Int.reduceLT, Int.reduceLE, Int.reduceEq, Nat.zero_add, Nat.add_zero, e_ints, e_bls, e_strs, sgnT, sgnF, l_ints, a_ints, s_ints, tru_bl, len_str, ty_str, ty_int, ty_bl, ty_non, ty_lst, ty_tup, ty_frz, ty_dct, tyOf_ref, lt_ii, gt_ii, ge_ii, neg_i, is_non, isNon_non, isNon_str, isNon_lst, isNon_tup, isNon_ref, isNon_int, lstOf_ref, lstOf_lst, lstOf_frz, seqOf_tup, seqOf_frz, seqOf_lst, seqOf_ref, listOf_frz, listOf_lst, listOf_ref, listG_frz, listG_lst, listG_ref, items_lst, items_frz, items_tup, items_str, items_ref, rdOf_ref, rdOf_lst, rdOf_tup, rdOf_frz, rdOf_str, rdOf_dct, dctOf_ref, dctOf_lst, dctOf_tup, dctOf_frz, dctOf_str, dctOf_dct, len_lst, len_tup, len_frz, len_ref, list_any, tuple_tup, tuple_lst, tuple_frz, tuple_ref, int_int, int_bl, mkL_t, mkL_f, mkT_ok, append_ref, clear_ref, if_sz, tyD_ref, tyD_str, tyD_lst, add_lr, add_rl, add_rr, add_ll, add_tt, add_ss, mod_ii, div_ii, mul_ii, List.lookup_cons, beq_self_eq_true, Bool.and_true, Bool.true_and, Bool.or_true, Bool.true_or, Bool.false_or, Bool.or_false, Bool.false_and, Bool.and_false, Bool.not_true, Bool.not_false, Bool.false_eq_true, Bool.true_eq_false, Option.isSome_some, Option.isSome_none, Option.map_some, Option.map_none, decide_true, decide_false, if_true, if_false, get_at, get_at_add, set_at, set_at_add, List.append_assoc, List.getElem?_cons_zero, List.getElem?_cons_succ, in_tup, in_lst, and_true, true_and, and_self, $ts,*])
variable {n : Nat} {st : Store}
/-! ### the law's loop -/
def BA : List Str := ["before", "after"]
theorem StAt.lt {G : Gw} {I : SI} {S : Sx} (h : StAt st G I S) : ∀ k ∈ I.ix, k < st.length := fun k hk => by
  simp only [SI.ix, List.mem_cons, List.not_mem_nil, or_false] at hk
  rcases hk with rfl | rfl | rfl | rfl | rfl | rfl
  · exact lt_of_get h.me
  · exact lt_of_get h.rw
  · exact lt_of_get h.wh
  · exact lt_of_get h.ld
  · exact lt_of_get h.dr
  · exact lt_of_get h.ct
theorem OwAt.lt {M : OI} {S : Sx} (h : OwAt st M S) : ∀ k ∈ M.ix, k < st.length := fun k hk => by
  simp only [OI.ix, List.mem_cons, List.not_mem_nil, or_false] at hk
  rcases hk with rfl | rfl | rfl | rfl | rfl
  · exact lt_of_get h.me
  · exact lt_of_get h.wh
  · exact lt_of_get h.ld
  · exact lt_of_get h.wn
  · exact lt_of_get h.ct
theorem deep_pair {i : Nat} {ls : List Str} {b : Bool} (h : st[i]? = some (.lst (Ss ls))) (hl : ls.length ≤ 1000) : deep 64 st (.tup [.ref i, .bl b]) = some (.tup [.lst (Ss ls), .bl b]) := by
  show (sq [deep 63 st (.ref i), deep 63 st (.bl b)]).map D.tup = _
  rw [deep_ref h, Tr.deep (k := 2) (.lst (Tr.ss 0 _) (by rw [List.length_map]; omega)) (by decide)]
  rfl
theorem eq_pair {i j : Nat} {ls : List Str} {b : Bool} (h : st[i]? = some (.lst (Ss ls))) (g : st[j]? = some (.lst (Ss ls))) (hl : ls.length ≤ 1000) : dEq true (.tup [.ref i, .bl b]) (.tup [.ref j, .bl b]) st = .ok (.bl false) st := by
  unfold dEq
  rw [deep_pair h hl, deep_pair g hl]
  show O.ok (D.bl (!eqD (.tup [.lst (Ss ls), .bl b]) (.tup [.lst (Ss ls), .bl b]))) st = _
  rw [Tr.self (k := 3) (.tup (fun x hx => by
    simp only [List.mem_cons, List.not_mem_nil, or_false] at hx
    rcases hx with rfl | rfl
    · exact .lst (Tr.ss 0 _) (by rw [List.length_map]; omega)
    · exact .bl _ _) (by simp))]
  rfl
noncomputable def Lb (call : Nat → Fn) : MS := (sSeq (sAsg (mCall 2 (call i__law_mixed) (mCons (mVar 7) (mCons (mC (.int 6)) mNil))) (.one 8))
    (sSeq (sAsg (mBin dIx (mLst false (mCons (mC (.str "before")) (mCons (mC (.str "after")) mNil))) (mBin dMod (mVar 8) (mC (.int 2)))) (.one 9))
    (sSeq (sAsg (mLst true mNil) (.one 10))
    (sSeq (sFor (mRange1 (mBin (dAdd false) (mC (.int 1)) (mBin dMod (mBin dDiv (mVar 8) (mC (.int 2))) (mC (.int 4))))) (.one 11) (sExpr (mMeth "list" dAppend (mVar 10) (mCons (mCall 4 (call i__law_tale_effect) (mCons (mCall 2 (call i__law_mixed) (mCons (mVar 8) (mCons (mVar 11) mNil))) (mCons (mVar 5) (mCons (mBin dIx (mVar 1) (mC (.int 1))) (mCons (mVar 9) mNil))))) mNil))))
    (sSeq (sAsg (mCall 2 (call i__law_effects) (mCons (mVar 4) (mCons (mVar 10) mNil))) (.one 12))
    (sSeq (sAsg (mCall 3 (call i_do_effects) (mCons (mVar 2) (mCons (mVar 3) (mCons (mApp dTuple (mCons (mVar 10) mNil)) mNil)))) (.one 13))
    (sSeq (sIf (mOrT (mTest (mBin (dEq true) (mVar 13) (mVar 12))) (mOrT (mNotT (mTru (mIsi ["list"] (mBin dIx (mVar 13) (mC (.int 0)))))) (mNotT (mTru (mIsi ["bool"] (mBin dIx (mVar 13) (mC (.int 1)))))))) (sRet (mC (.bl false))) sNil)
    (sSeq (sExpr (mMeth "list" dAppend (mBin dIx (mVar 13) (mC (.int 0))) (mCons (mC (.str "x")) mNil)))
    (sSeq (sIf (mTest (mBin (dEq true) (mMth mthF call "told" (mVar 3) mNil) (mCall 3 (call i__law_told_state) (mCons (mVar 1) (mCons (mVar 4) (mCons (mC (.int 0)) mNil)))))) (sRet (mC (.bl false))) sNil)
    (sSeq (sAsg (mLc false (mRange1 (mC (.int 4))) (.one 11) [11] mYes (mCall 3 (call i__law_tale_condition) (mCons (mCall 2 (call i__law_mixed) (mCons (mVar 8) (mCons (mBin (dAdd false) (mC (.int 20)) (mVar 11)) mNil))) (mCons (mVar 5) (mCons (mBin dIx (mVar 1) (mC (.int 1))) mNil))))) (.one 14))
    (sIf (mNotT (mTru (mCall 4 (call i__law_conditions_right) (mCons (mVar 2) (mCons (mVar 3) (mCons (mVar 4) (mCons (mApp dTuple (mCons (mVar 14) mNil)) mNil))))))) (sRet (mC (.bl false))) sNil)))))))))))
structure Ca (C : Nat → Fn) (d : D) (w : Nat) (G : Gw) (rooms : List Str) (rows : List Row) : Prop where
  mixed : ∀ (c k : Int) (st : Store), 0 ≤ k → k ≤ 1000000 → C i__law_mixed [.int c, .int k] st = .ok (.int (dr c k)) st
  eff : ∀ (m : Int) (book : Str) (st : Store), ∃ x, Eff rooms rows x ∧ C i__law_tale_effect [.int m, .lst (Ss rooms), .lst (Rs rows), .str book] st = .ok x st
  cnd : ∀ (m : Int) (st : Store), ∃ x, Cnd rows x ∧ C i__law_tale_condition [.int m, .lst (Ss rooms), .lst (Rs rows)] st = .ok x st
  effs : ∀ ds : List D, (∀ x ∈ ds, Eff rooms rows x) → ∃ es : List Ef, ds = es.map Ef.d ∧ ∀ e ∈ es, Vd G e
  oeff : ∀ (st : Store) (M : OI) (S : Sx) (a : Nat) (es : List Ef), a ∉ M.ix → st[a]? = some (.lst (es.map Ef.d)) → OwAt st M S → (∀ k ∈ M.ix, k < st.length) → Sinv G S → es.length ≤ 90 → (∀ e ∈ es, Vd G e) →
    ∃ st', C i__law_effects [.ref M.me, .ref a] st = .ok (.tup [.ref st.length, .bl (efB es)]) st' ∧ OwAt st' M (efS es S) ∧ st'[st.length]? = some (.lst (Ss (efL es))) ∧ Gr (fun k => k ∈ M.ix) st st' ∧ st'.length = st.length + 1
  seff : ∀ (st : Store) (I : SI) (S : Sx) (es : List Ef), StAt st G I S → (∀ k ∈ I.ix, k < st.length) → Sinv G S → es.length ≤ 90 → (∀ e ∈ es, Vd G e) →
    ∃ st', C i_do_effects [.ref w, .ref I.me, .tup (es.map Ef.d)] st = .ok (.tup [.ref st.length, .bl (efB es)]) st' ∧ StAt st' G I (efS es S) ∧ st'[st.length]? = some (.lst (Ss (efL es))) ∧ Gr (fun k => k ∈ I.ix) st st' ∧ st'.length = st.length + 1
  stold : ∀ (st : Store) (I : SI) (S : Sx), StAt st G I S → Sok G S → C i_M_State_told [.ref I.me] st = .ok (tld S) st
  ltold : ∀ (st : Store) (M : OI) (S : Sx), OwAt st M S → Sinv G S → S.ld = lidsOf rows → C i__law_told_state [d, .ref M.me, .int 0] st = .ok (tld S) st
  right : ∀ (st : Store) (I : SI) (M : OI) (S : Sx) (cs : List D), StAt st G I S → OwAt st M S → Sinv G S → cs.length ≤ 1000 → (∀ c ∈ cs, Cnd rows c) → C i__law_conditions_right [.ref w, .ref I.me, .ref M.me, .tup cs] st = .ok (.bl true) st
  things : ∀ st : Store, dIx d (.int 1) st = .ok (.lst (Rs rows)) st
structure Lv (st : Store) (w : Nat) (wo : Ob) (G : Gw) (I : SI) (M : OI) (rows : List Row) (S : Sx) : Prop where
  s : StAt st G I S
  o : OwAt st M S
  inv : Sinv G S
  ld : S.ld = lidsOf rows
  dj : ∀ k ∈ M.ix, k ∉ I.ix
  ww : st[w]? = some wo
  wi : w ∉ I.ix
  wm : w ∉ M.ix
section
variable {C : Nat → Fn} {d : D} {w : Nat} {G : Gw} {rooms : List Str} {rows : List Row} {wo : Ob} {I : SI} {M : OI}
theorem made_for (ca : Ca C d w G rooms rows) {x0 x2 x3 x4 x6 x7 x12 x13 x14 : Option D} {m : Int} {book : Str} {a : Nat} : ∀ (ks : List Nat) (cs : List D) (st : Store) (x11 : Option D), (∀ k ∈ ks, k ≤ 1000) → cs.length + ks.length ≤ 100 → st[a]? = some (.lst cs) → (∀ c ∈ cs, Eff rooms rows c) →
    ∃ cs' z11, forGo [] (.one 11) (sExpr (mMeth "list" dAppend (mVar 10) (mCons (mCall 4 (C i__law_tale_effect) (mCons (mCall 2 (C i__law_mixed) (mCons (mVar 8) (mCons (mVar 11) mNil))) (mCons (mVar 5) (mCons (mBin dIx (mVar 1) (mC (.int 1))) (mCons (mVar 9) mNil))))) mNil))) (ks.map fun (k : Nat) => D.int (k : Int)) [x0, some d, x2, x3, x4, some (.lst (Ss rooms)), x6, x7, some (.int m), some (.str book), some (.ref a), x11, x12, x13, x14] st
      = .nx [x0, some d, x2, x3, x4, some (.lst (Ss rooms)), x6, x7, some (.int m), some (.str book), some (.ref a), z11, x12, x13, x14] (st.set a (.lst cs')) ∧ (∀ c ∈ cs', Eff rooms rows c) ∧ cs'.length = cs.length + ks.length
  | [], cs, st, x11, _, _, h, hc => ⟨cs, x11, by rw [show st.set a (.lst cs) = st from set_same h]; exact for_nil, hc, by simp⟩
  | k :: ks, cs, st, x11, hk, hlen, h, hc => by
    have h1 := hk k (List.mem_cons_self ..)
    simp at hlen
    obtain ⟨x, hd, e1⟩ := ca.eff (dr m (k : Int)) book st
    have e2 := ca.mixed m (k : Int) st (by omega) (by omega)
    have e3 := ca.things st
    have e6 : ("list" == "list") = true := rfl
    have hc' : ∀ c ∈ cs ++ [x], Eff rooms rows c := fun c hm => by
      rcases List.mem_append.mp hm with hm | hm
      · exact hc c hm
      · have : c = x := by simpa using hm
        rw [this]; exact hd
    obtain ⟨cs', z11, g1, g2, g3⟩ := made_for ca (x0 := x0) (x2 := x2) (x3 := x3) (x4 := x4) (x6 := x6) (x7 := x7) (x12 := x12) (x13 := x13) (x14 := x14) (m := m) (book := book) ks (cs ++ [x]) (st.set a (.lst (cs ++ [x]))) (some (.int (k : Int))) (fun j hj => hk j (List.mem_cons_of_mem _ hj)) (by simp; omega) (List.getElem?_set_self (lt_of_get h)) hc'
    refine ⟨cs', z11, ?_, g2, by simp at g3 ⊢; omega⟩
    rw [List.set_set] at g1
    rw [List.map_cons, for_one]
    simp_arith [e1, e2, e3, e6, h, show cs.length < 16777216 by omega]
    exact g1
theorem turn_run (ca : Ca C d w G rooms rows) {S : Sx} (h : Lv st w wo G I M rows S) {c : Int} {x0 x6 x8 x9 x10 x11 x12 x13 x14 : Option D} :
    ∃ st' S' z8 z9 z10 z11 z12 z13 z14, Lb C [x0, some d, some (.ref w), some (.ref I.me), some (.ref M.me), some (.lst (Ss rooms)), x6, some (.int c), x8, x9, x10, x11, x12, x13, x14] st = .nx [x0, some d, some (.ref w), some (.ref I.me), some (.ref M.me), some (.lst (Ss rooms)), x6, some (.int c), z8, z9, z10, z11, z12, z13, z14] st' ∧ Lv st' w wo G I M rows S' := by
  have e1 := ca.mixed c 6 st (by decide) (by decide)
  generalize dr c 6 = m at *
  have e2 := pick_run (st := st) (ws := BA) (m := m) (L := 2) rfl (by decide)
  have d2 : [D.str "before", .str "after"] = Ss BA := rfl
  have d2l : (Ss BA).length ≤ 16777216 := by decide
  generalize BA.getD (m % 2).toNat "" = bk at *
  have h4 : 0 ≤ m / 2 % 4 ∧ m / 2 % 4 < 4 := ⟨Int.emod_nonneg _ (by decide), Int.emod_lt_of_pos _ (by decide)⟩
  have il := h.s.lt
  have ol := h.o.lt
  have wl := lt_of_get h.ww
  obtain ⟨cs, z11, f1, f2, f3⟩ := made_for ca (x0 := x0) (x2 := some (.ref w)) (x3 := some (.ref I.me)) (x4 := some (.ref M.me)) (x6 := x6) (x7 := some (.int c)) (x12 := x12) (x13 := x13) (x14 := x14) (m := m) (book := bk) (a := st.length) (List.range (1 + m / 2 % 4).toNat) [] (st ++ [.lst []]) x11 (fun k hk => by rw [List.mem_range] at hk; omega) (by simp; omega) get_last (fun c hc => by simp at hc)
  rw [List.length_range] at f3
  simp at f3
  rw [show (st ++ [Ob.lst []]).set st.length (.lst cs) = st ++ [Ob.lst cs] by rw [set_at]; rfl] at f1
  obtain ⟨es, rfl, hv⟩ := ca.effs cs f2
  have le : es.length ≤ 4 := by simp at f3; omega
  -- the store behind the making
  generalize hs2 : st ++ [Ob.lst (es.map Ef.d)] = st2 at *
  have l2 : st2.length = st.length + 1 := by rw [← hs2]; simp
  have k2 : ∀ k, k < st.length → st2[k]? = st[k]? := fun k hk => by rw [← hs2]; exact List.getElem?_append_left hk
  have a2 : st2[st.length]? = some (.lst (es.map Ef.d)) := by rw [← hs2]; exact get_last
  have s2 : StAt st2 G I S := h.s.frame fun k hk => k2 k (il k hk)
  have o2 : OwAt st2 M S := h.o.frame fun k hk => k2 k (ol k hk)
  obtain ⟨st3, g1, o3, b3, gr3, l3⟩ := ca.oeff st2 M S st.length es (fun z => absurd (ol _ z) (by omega)) a2 o2 o2.lt h.inv (by omega) hv
  have s3 : StAt st3 G I S := s2.frame fun k hk => gr3.same k (by have := il k hk; omega) fun z => h.dj k z hk
  have a3 : st3[st.length]? = some (.lst (es.map Ef.d)) := by rw [gr3.same _ (by omega) fun z => absurd (ol _ z) (by omega)]; exact a2
  have t3 : dTuple [.ref st.length] st3 = .ok (.tup (es.map Ef.d)) st3 := tupl_ref a3 (by rw [List.length_map]; omega)
  obtain ⟨st4, g2, s4, b4, gr4, l4⟩ := ca.seff st3 I S es s3 s3.lt h.inv (by omega) hv
  have inv' := efS_inv es h.inv hv
  have hld : (efS es S).ld = lidsOf rows := (efS_ld es S).1.trans h.ld
  have o4 : OwAt st4 M (efS es S) := o3.frame fun k hk => gr4.same k (by have := ol k hk; omega) (h.dj k hk)
  have b3' : st4[st2.length]? = some (.lst (Ss (efL es))) := by rw [gr4.same _ (by omega) fun z => absurd (il _ z) (by omega)]; exact b3
  have ll := efL_len es
  have e5 := eq_pair (b := efB es) b4 b3' (by omega)
  have t4 : ∀ st', dIx (.tup [.ref st3.length, .bl (efB es)]) (.int 0) st' = .ok (.ref st3.length) st' := fun _ => rfl
  have t5 : ∀ st', dIx (.tup [.ref st3.length, .bl (efB es)]) (.int 1) st' = .ok (.bl (efB es)) st' := fun _ => rfl
  generalize (D.tup [.ref st3.length, .bl (efB es)]) = told at *
  generalize (D.tup [.ref st2.length, .bl (efB es)]) = due at *
  have q1 : (["list"].any (subT "list")) = true := by decide
  have q2 : (["bool"].any (subT "bool")) = true := by decide
  have q3 : ("list" == "list") = true := rfl
  have lx : (Ss (efL es)).length < 16777216 := by rw [List.length_map]; omega
  generalize hs5 : st4.set st3.length (.lst (Ss (efL es) ++ [.str "x"])) = st5 at *
  have k5 : ∀ k, k ≠ st3.length → st5[k]? = st4[k]? := fun k hk => by rw [← hs5]; exact set_at_ne (Ne.symm hk)
  have s5 : StAt st5 G I (efS es S) := s4.frame fun k hk => k5 k (by have := il k hk; omega)
  have o5 : OwAt st5 M (efS es S) := o4.frame fun k hk => k5 k (by have := ol k hk; omega)
  have w5 : st5[w]? = some wo := by
    rw [k5 w (by omega), gr4.same w (by omega) h.wi, gr3.same w (by omega) h.wm, k2 w wl]; exact h.ww
  have e6 := ca.stold st5 I _ s5 inv'.ok
  have e7 := ca.ltold st5 M _ o5 inv' hld
  have e8 := eq_self (st := st5) (tld_tr inv'.ok) (by decide) true
  have e9 := ca.things st5
  have hc : ∀ k : Nat, ∃ x, Cnd rows x ∧ C i__law_tale_condition [.int (dr m (20 + (k : Int))), .lst (Ss rooms), .lst (Rs rows)] st5 = .ok x st5 := fun k => ca.cnd _ _
  let f : Nat → D := fun k => (hc k).choose
  have hf : ∀ k, Cnd rows (f k) ∧ C i__law_tale_condition [.int (dr m (20 + (k : Int))), .lst (Ss rooms), .lst (Rs rows)] st5 = .ok (f k) st5 := fun k => (hc k).choose_spec
  have e10 : ∀ x10 x11 x12 x13 x14 : Option D, mLc false (mRange1 (mC (.int 4))) (.one 11) [11] mYes (mCall 3 (C i__law_tale_condition) (mCons (mCall 2 (C i__law_mixed) (mCons (mVar 8) (mCons (mBin (dAdd false) (mC (.int 20)) (mVar 11)) mNil))) (mCons (mVar 5) (mCons (mBin dIx (mVar 1) (mC (.int 1))) mNil)))) [x0, some d, some (.ref w), some (.ref I.me), some (.ref M.me), some (.lst (Ss rooms)), x6, some (.int c), some (.int m), some (.str bk), x10, x11, x12, x13, x14] st5 = .ok (.lst ((List.range 4).map f)) st5 := fun x10 x11 x12 x13 x14 => by
    refine mLc_all (enc := fun (k : Nat) => D.int (k : Int)) (g := []) ?_ (guard_nil _) (by rw [List.length_range]; decide) fun k hk => ⟨_, rfl, ?_⟩
    · simp_arith [rangeD_eq]
      rfl
    · rw [List.mem_range] at hk
      have z1 := ca.mixed m (20 + (k : Int)) st5 (by omega) (by omega)
      have z2 := (hf k).2
      simp_arith [z1, z2, e9]
  have e11 := ca.right st5 I M _ ((List.range 4).map f) s5 o5 inv' (by simp) (fun c hc => by
    obtain ⟨k, _, rfl⟩ := List.mem_map.mp hc
    exact (hf k).1)
  have lf : ((List.range 4).map f).length ≤ 16777216 := by simp
  generalize ((List.range 4).map f) = fs at *
  refine ⟨st5, efS es S, some (.int m), some (.str bk), some (.ref st.length), ?_, some due, some told, some (.lst fs), ?_, ⟨s5, o5, inv', hld, h.dj, w5, h.wi, h.wm⟩⟩
  · exact z11
  unfold Lb
  have mk0 : mkL true [] st = .ok (.ref st.length) (st ++ [.lst []]) := rfl
  have m4 := s4.me
  have m5 := s5.me
  refine run_seq (ρ1 := [x0, some d, some (.ref w), some (.ref I.me), some (.ref M.me), some (.lst (Ss rooms)), x6, some (.int c), some (.int m), x9, x10, x11, x12, x13, x14]) (st1 := st) ?_ ?_
  · simp_arith [e1]
  refine run_seq (ρ1 := [x0, some d, some (.ref w), some (.ref I.me), some (.ref M.me), some (.lst (Ss rooms)), x6, some (.int c), some (.int m), some (.str bk), x10, x11, x12, x13, x14]) (st1 := st) ?_ ?_
  · simp_arith [d2, d2l, e2]
  refine run_seq (ρ1 := [x0, some d, some (.ref w), some (.ref I.me), some (.ref M.me), some (.lst (Ss rooms)), x6, some (.int c), some (.int m), some (.str bk), some (.ref st.length), x11, x12, x13, x14]) (st1 := st ++ [.lst []]) ?_ ?_
  · simp_arith [mk0]
  refine run_seq (ρ1 := [x0, some d, some (.ref w), some (.ref I.me), some (.ref M.me), some (.lst (Ss rooms)), x6, some (.int c), some (.int m), some (.str bk), some (.ref st.length), z11, x12, x13, x14]) (st1 := st2) ?_ ?_
  · simp_arith [q_for, q_for1, rangeD_eq]
    exact f1
  refine run_seq (ρ1 := [x0, some d, some (.ref w), some (.ref I.me), some (.ref M.me), some (.lst (Ss rooms)), x6, some (.int c), some (.int m), some (.str bk), some (.ref st.length), z11, some due, x13, x14]) (st1 := st3) ?_ ?_
  · simp_arith [g1]
  refine run_seq (ρ1 := [x0, some d, some (.ref w), some (.ref I.me), some (.ref M.me), some (.lst (Ss rooms)), x6, some (.int c), some (.int m), some (.str bk), some (.ref st.length), z11, some due, some told, x14]) (st1 := st4) ?_ ?_
  · simp_arith [t3, g2]
  refine run_seq (ρ1 := [x0, some d, some (.ref w), some (.ref I.me), some (.ref M.me), some (.lst (Ss rooms)), x6, some (.int c), some (.int m), some (.str bk), some (.ref st.length), z11, some due, some told, x14]) (st1 := st4) ?_ ?_
  · simp_arith [e5, t4, t5, b4, q1, q2]
  refine run_seq (ρ1 := [x0, some d, some (.ref w), some (.ref I.me), some (.ref M.me), some (.lst (Ss rooms)), x6, some (.int c), some (.int m), some (.str bk), some (.ref st.length), z11, some due, some told, x14]) (st1 := st5) ?_ ?_
  · simp_arith [t4, b4, q3, lx, hs5]
  refine run_seq (ρ1 := [x0, some d, some (.ref w), some (.ref I.me), some (.ref M.me), some (.lst (Ss rooms)), x6, some (.int c), some (.int m), some (.str bk), some (.ref st.length), z11, some due, some told, x14]) (st1 := st5) ?_ ?_
  · simp_arith [m5, insO_s, q_mth, mt7, lm7, e6, e7, e8]
  refine run_seq (ρ1 := [x0, some d, some (.ref w), some (.ref I.me), some (.ref M.me), some (.lst (Ss rooms)), x6, some (.int c), some (.int m), some (.str bk), some (.ref st.length), z11, some due, some told, some (.lst fs)]) (st1 := st5) ?_ ?_
  · simp_arith [e10]
  · simp_arith [lf, e11]
theorem turns_for (ca : Ca C d w G rooms rows) {x0 x6 : Option D} : ∀ (cs : List Int) (st : Store) (S : Sx) (x7 x8 x9 x10 x11 x12 x13 x14 : Option D), Lv st w wo G I M rows S →
    ∃ st' S' z7 z8 z9 z10 z11 z12 z13 z14, forGo [] (.one 7) (Lb C) (Is cs) [x0, some d, some (.ref w), some (.ref I.me), some (.ref M.me), some (.lst (Ss rooms)), x6, x7, x8, x9, x10, x11, x12, x13, x14] st = .nx [x0, some d, some (.ref w), some (.ref I.me), some (.ref M.me), some (.lst (Ss rooms)), x6, z7, z8, z9, z10, z11, z12, z13, z14] st' ∧ Lv st' w wo G I M rows S'
  | [], st, S, x7, x8, x9, x10, x11, x12, x13, x14, h => ⟨st, S, x7, x8, x9, x10, x11, x12, x13, x14, for_nil, h⟩
  | c :: cs, st, S, x7, x8, x9, x10, x11, x12, x13, x14, h => by
    obtain ⟨st1, S1, y8, y9, y10, y11, y12, y13, y14, g1, h1⟩ := turn_run ca h (c := c) (x0 := x0) (x6 := x6) (x8 := x8) (x9 := x9) (x10 := x10) (x11 := x11) (x12 := x12) (x13 := x13) (x14 := x14)
    obtain ⟨st2, S2, z7, z8, z9, z10, z11, z12, z13, z14, g2, h2⟩ := turns_for ca (x0 := x0) (x6 := x6) cs st1 S1 (some (.int c)) y8 y9 y10 y11 y12 y13 y14 h1
    refine ⟨st2, S2, z7, z8, z9, z10, z11, z12, z13, z14, ?_, h2⟩
    show forGo [] (.one 7) (Lb C) (D.int c :: Is cs) _ _ = _
    rw [for_one]
    show OS.turn (Lb C [x0, some d, some (.ref w), some (.ref I.me), some (.ref M.me), some (.lst (Ss rooms)), x6, some (.int c), x8, x9, x10, x11, x12, x13, x14] st) _ = _
    rw [g1]
    exact g2
end
end K20
namespace K20
open PySem L2 Mi
local macro_rules
  | `(tactic| simp_arith [$ts,*]) => `(tactic| simp (disch := first | assumption | omega | (simp only [List.length_cons, List.length_nil, List.length_map, List.length_append]; done) | (simp only [List.length_cons, List.length_nil, List.length_map, List.length_append]; omega)) only [↓reduceIte, r_seq, seq_nx, seq_rt, seq_no, seq_ex, seq_bk, seq_ct, OS_turn_nx, OS_turn_ct, OS_turn_rt, OS_turn_bk, turn_ex, O_bind_ok, O_bind_ex, O_bind_no, O_toS_ok, O_toS_ex, O_toS_no, O_strict_ok, r_var0, r_varS, r_C, r_nil, r_un, r_app, r_lst, r_tup, r_yes, r_nopart, r_snil, r_break, r_cont, r_retN, q_bin, q_bin2, q_cons, q_cons1, q_cons2, q_meth, q_meth1, q_tru, q_tru1, q_truO, q_test, q_test1, q_notT, q_notT1, q_andT, q_andTt, q_andTf, q_orT, q_orTt, q_orTf, q_ifE, q_ifT, q_iteT, q_iteF, q_andV, q_andV1, q_andOt, q_andOf, q_orV, q_orV1, q_orOt, q_orOf, q_notV, q_notV1, q_notO, q_chain, q_chain1, q_chain2, q_chain3t, q_chain3f, q_part, q_part1, q_sl, q_sl1, q_sl2, q_sl3, q_items, q_items1, q_srcO, q_enum, q_enum1, q_enumO, q_pnil, q_pair, q_pair1, q_pair2, q_pair3, q_disp, q_zip, q_zip1, q_zip2, zipS_tt, zipS_ll, q_range1, q_range11, q_range2, q_range21, q_range3, q_isi, q_isi1, q_isiO, q_isc, q_isc1, q_iscO, q_call, q_call1, q_attr, q_attr1, q_attrO, q_attrO2, q_mth, q_mth1, q_mthO, q_mth2, q_mth3, q_make, q_make1, q_asg, q_asg1, q_asgO, q_expr, q_expr1, q_ret, q_ret1, q_if, q_ift, q_iff, q_whilet, q_whilef, q_atr, q_atr1, q_atr2, q_aa1, q_aa2, q_aa3, q_aa4, q_step, q_step1, q_step2, insAt_ref, q_insO, setAt_ref, q_setO, isNonO_non, putD, bindT, setD, wipeD, List.map_cons, List.map_nil, List.replicate, List.set_cons_zero, List.set_cons_succ, List.cons_append, List.nil_append, List.append_nil, List.length_cons, List.length_nil, Nat.reduceAdd, Nat.reduceSub, Nat.reduceEqDiff, Nat.reduceLT, Int.reduceLT, Int.reduceLE, Int.reduceEq, Nat.zero_add, Nat.add_zero, e_ints, e_bls, e_strs, sgnT, sgnF, l_ints, a_ints, s_ints, tru_bl, len_str, ty_str, ty_int, ty_bl, ty_non, ty_lst, ty_tup, ty_frz, ty_dct, tyOf_ref, lt_ii, gt_ii, ge_ii, neg_i, is_non, isNon_non, isNon_str, isNon_lst, isNon_tup, isNon_ref, isNon_int, lstOf_ref, lstOf_lst, lstOf_frz, seqOf_tup, seqOf_frz, seqOf_lst, seqOf_ref, listOf_frz, listOf_lst, listOf_ref, listG_frz, listG_lst, listG_ref, items_lst, items_frz, items_tup, items_str, items_ref, rdOf_ref, rdOf_lst, rdOf_tup, rdOf_frz, rdOf_str, rdOf_dct, dctOf_ref, dctOf_lst, dctOf_tup, dctOf_frz, dctOf_str, dctOf_dct, len_lst, len_tup, len_frz, len_ref, list_any, tuple_tup, tuple_lst, tuple_frz, tuple_ref, int_int, int_bl, mkL_t, mkL_f, mkT_ok, append_ref, clear_ref, if_sz, tyD_ref, tyD_str, tyD_lst, add_lr, add_rl, add_rr, add_ll, add_tt, add_ss, mod_ii, div_ii, mul_ii, List.lookup_cons, beq_self_eq_true, Bool.and_true, Bool.true_and, Bool.or_true, Bool.true_or, Bool.false_or, Bool.or_false, Bool.false_and, Bool.and_false, Bool.not_true, Bool.not_false, Bool.false_eq_true, Bool.true_eq_false, Option.isSome_some, Option.isSome_none, Option.map_some, Option.map_none, decide_true, decide_false, if_true, if_false, get_at, get_at_add, set_at, set_at_add, List.append_assoc, List.getElem?_cons_zero, List.getElem?_cons_succ, in_tup, in_lst, and_true, true_and, and_self, $ts,*])
variable {n : Nat} {st : Store}
/-! ### the law -/
theorem lst_8 (a b c e f g h i : D) (ρ : Rho) : bindT (.many [1, 2, 3, 4, 5, 6, 7, 8]) (.lst [a, b, c, e, f, g, h, i]) ρ = some (setD [1, 2, 3, 4, 5, 6, 7, 8] [a, b, c, e, f, g, h, i] ρ) := rfl
theorem made_run {p : List (Str × Bool)} {rows : List Row} {ways : List Way} {us : List D} (hp : p.length ≤ 1000) (ht : rows.length ≤ 1000) (hw : ways.length ≤ 1000) (hu : us.length ≤ 1000) :
    cF (n + 2) i__law_made [tlD p rows ways us] st = .ok (.ref st.length) (st ++ [wob (.lst (Ps p)) (.lst (Rs rows)) (.lst (Ws ways)) (.lst (STS.map Sd)) (.lst us)]) := by
  refine ck rfl rfl B__law_made ?_
  have e0 : ∀ d : D, startD N__law_made.length [d] = [some d, none, none, none, none, none, none, none, none] := fun _ => rfl
  have e1 := w_init (n := n) (st := st) (p := Ps p) (t := Rs rows) (w := Ws ways) (s := STS.map Sd) (u := us) (by unfold Ps; rw [List.length_map]; exact hp) (by unfold Rs; rw [List.length_map]; exact ht) (by unfold Ws; rw [List.length_map]; exact hw) (by decide) hu
  unfold tlD
  generalize Ps p = P at *
  generalize Rs rows = R at *
  generalize Ws ways = W at *
  generalize STS.map Sd = Q at *
  have e1' : cF (n + 1) i_M_World___init__ [.ref st.length, .lst P, .lst R, .lst W, .lst Q, .lst us, .lst [], .lst [], .lst []] (st ++ [.ins 1 []]) = _ := e1
  unfold P__law_made
  simp_arith [e0, lst_8, e1']
theorem sum_frz (ns : List Int) : dSum [.frz (Is ns)] st = .ok (.int ns.sum) st := by
  show (match intsD (Is ns) with
    | some is => O.ok (D.int is.sum) st
    | none => .no) = _
  have : intsD (Is ns) = some ns := by
    unfold Is
    induction ns with
    | nil => rfl
    | cons x r ih =>
      show (intsD (r.map D.int)).map (x :: ·) = _
      rw [ih]
      rfl
  rw [this]
theorem us_tr {us : List D} (h : ∀ u ∈ us, Tr 6 u) (hl : us.length ≤ 12) : Tr 9 (.lst us) := .lst (fun u hu => (h u hu).up (by decide)) (by omega)
theorem law_body {C : Nat → Fn} {ns : List Int} {d : D} {p0 : Str × Bool} {pl : List (Str × Bool)} {rooms : List Str} {rows : List Row} {ways : List Way} {us : List D} (hn : ns.length ≤ 63)
    (hd : d = tlD (p0 :: pl) rows ways us) (T : Tale rooms (p0 :: pl) rows ways us)
    (h1 : C i__law_tale [.frz (Is ns)] [] = .ok d [])
    (h2 : C i__law_made [d] [] = .ok (.ref 0) [wob (.lst (Ps (p0 :: pl))) (.lst (Rs rows)) (.lst (Ws ways)) (.lst (STS.map Sd)) (.lst us)])
    (h3 : C i_M_State___init__ [.ref 1, .ref 0] [wob (.lst (Ps (p0 :: pl))) (.lst (Rs rows)) (.lst (Ws ways)) (.lst (STS.map Sd)) (.lst us), .ins cS []] = .ok .non [wob (.lst (Ps (p0 :: pl))) (.lst (Rs rows)) (.lst (Ws ways)) (.lst (STS.map Sd)) (.lst us), .ins cS (sfs (G0 0 rows (p0 :: pl) ways) ⟨1, 2, 3, 4, 5, 6⟩ p0.1 0), .dct (kv Row.d (rl rows)), .dct (kv dW (whs rows)), .dct (kv D.bl (lidsOf rows)), .dct (kv D.bl (drs rows)), .dct (kv D.int (mg [] STS))])
    (h4 : ∀ st : Store, C i__law_begin [d] st = .ok (.ref (st.length + 4)) (st ++ [.dct (kv D.bl (lidsOf rows)), .dct (kv dW (whs rows)), .lst [], .dct (kv D.int (mg [] STS)), .dct (ofs (MI st.length) p0.1)]))
    (h5 : ∀ st : Store, st[0]? = some (wob (.lst (Ps (p0 :: pl))) (.lst (Rs rows)) (.lst (Ws ways)) (.lst (STS.map Sd)) (.lst us)) → C i_M_World_told [.ref 0] st = .ok (.tup [.lst (Ps (p0 :: pl)), .lst (Rs rows), .lst (Ws ways), .lst (STS.map Sd), .lst us, .lst [], .lst [], .lst []]) st)
    (ca : Ca C d 0 (G0 0 rows (p0 :: pl) ways) rooms rows) : ∃ st', P_law C [some (.frz (Is ns)), none, none, none, none, none, none, none, none, none, none, none, none, none, none] [] = .rt (.bl true) st' := by
  generalize hwo : wob (.lst (Ps (p0 :: pl))) (.lst (Rs rows)) (.lst (Ws ways)) (.lst (STS.map Sd)) (.lst us) = wo at *
  have m0 : ∀ st', dIx d (.int 0) st' = .ok (.lst (Ps (p0 :: pl))) st' := fun st' => by rw [hd]; rfl
  have m4 : ∀ st', dIx d (.int 4) st' = .ok (.lst us) st' := fun st' => by rw [hd]; rfl
  have inv : Sinv (G0 0 rows (p0 :: pl) ways) (S0 p0.1 rows STS) := T.inv
  let st7 : Store := [wo, .ins cS (sfs (G0 0 rows (p0 :: pl) ways) ⟨1, 2, 3, 4, 5, 6⟩ p0.1 0), .dct (kv Row.d (rl rows)), .dct (kv dW (whs rows)), .dct (kv D.bl (lidsOf rows)), .dct (kv D.bl (drs rows)), .dct (kv D.int (mg [] STS))]
  let I : SI := ⟨1, 2, 3, 4, 5, 6⟩
  let M : OI := MI 7
  let st12 : Store := st7 ++ [.dct (kv D.bl (lidsOf rows)), .dct (kv dW (whs rows)), .lst [], .dct (kv D.int (mg [] STS)), .dct (ofs (MI 7) p0.1)]
  have h4' : C i__law_begin [d] st7 = .ok (.ref 11) st12 := h4 st7
  have hmk : mMake 0 1 (C i_M_State___init__) (mCons (mVar 2) mNil) [some (.frz (Is ns)), some d, some (.ref 0), none, none, none, none, none, none, none, none, none, none, none, none] [wo] = .ok (.ref 1) st7 := by
    rw [q_make]
    simp_arith [h3]
    rfl
  have lv : Lv st12 0 wo (G0 0 rows (p0 :: pl) ways) I M rows (S0 p0.1 rows STS) :=
    ⟨⟨rfl, rfl, rfl, rfl, rfl, rfl, by show [1, 2, 3, 4, 5, 6].Nodup; decide⟩, ⟨rfl, rfl, rfl, rfl, rfl, by show [11, 8, 7, 9, 10].Nodup; decide⟩, inv, rfl, by
      intro k hk
      have hk : k ∈ [11, 8, 7, 9, 10] := hk
      show k ∉ [1, 2, 3, 4, 5, 6]
      simp only [List.mem_cons, List.not_mem_nil, or_false] at *
      omega, rfl, by show 0 ∉ [1, 2, 3, 4, 5, 6]; decide, by show 0 ∉ [11, 8, 7, 9, 10]; decide⟩
  obtain ⟨ms, g1, g2⟩ := sl_frz (st := st12) (ns := ns) (by omega) none (some 120)
  have e4 : Is ms ++ [.int ns.sum] = Is (ms ++ [ns.sum]) := by simp [Is]
  have l4 : (Is (ms ++ [ns.sum])).length ≤ 16777216 := by unfold Is; simp; omega
  have e5 := sum_frz (st := st12) ns
  have e6 : ∀ x2 x3 x4 : Option D, mLc false (mItems (mBin dIx (mVar 1) (mC (.int 0)))) (.one 6) [6] mYes (mBin dIx (mVar 6) (mC (.int 0))) [some (.frz (Is ns)), some d, x2, x3, x4, none, none, none, none, none, none, none, none, none, none] st12 = .ok (.lst (Ss rooms)) st12 := fun x2 x3 x4 => by
    have hr : Ss rooms = (p0 :: pl).map fun p => D.str p.1 := by rw [← T.pl]; show List.map D.str (List.map _ _) = _; rw [List.map_map]; rfl
    have lp := T.rm.pos.2
    have lq : (p0 :: pl).length = rooms.length := by rw [← T.pl, List.length_map]
    rw [hr]
    refine mLc_all (enc := Pd) (g := []) (xs := p0 :: pl) ?_ (guard_nil _) (by unfold sizeLine; omega) fun r _ => ⟨_, rfl, rfl⟩
    simp_arith [m0]
    rfl
  obtain ⟨st', S', z7, z8, z9, z10, z11, z12, z13, z14, g3, lv'⟩ := turns_for ca (x0 := some (.frz (Is ns))) (x6 := none) (ms ++ [ns.sum]) st12 _ none none none none none none none none lv
  clear_value st12 st7
  have e7 := h5 st' lv'.ww
  have e8 := eq_self (st := st') (us_tr T.us T.lu) (by decide) false
  have e9 : ∀ st', dIx (.tup [.lst (Ps (p0 :: pl)), .lst (Rs rows), .lst (Ws ways), .lst (STS.map Sd), .lst us, .lst [], .lst [], .lst []]) (.int 4) st' = .ok (.lst us) st' := fun _ => rfl
  generalize (D.tup [.lst (Ps (p0 :: pl)), .lst (Rs rows), .lst (Ws ways), .lst (STS.map Sd), .lst us, .lst [], .lst [], .lst []]) = td at *
  have mw := lv'.ww
  refine ⟨st', ?_⟩
  unfold P_law
  refine run_seq (ρ1 := [some (.frz (Is ns)), some d, none, none, none, none, none, none, none, none, none, none, none, none, none]) (st1 := []) ?_ ?_
  · simp_arith [h1]
  refine run_seq (ρ1 := [some (.frz (Is ns)), some d, some (.ref 0), none, none, none, none, none, none, none, none, none, none, none, none]) (st1 := [wo]) ?_ ?_
  · simp_arith [h2]
  refine run_seq (ρ1 := [some (.frz (Is ns)), some d, some (.ref 0), some (.ref 1), none, none, none, none, none, none, none, none, none, none, none]) (st1 := st7) ?_ ?_
  · rw [q_asg, hmk]
    rfl
  refine run_seq (ρ1 := [some (.frz (Is ns)), some d, some (.ref 0), some (.ref 1), some (.ref 11), none, none, none, none, none, none, none, none, none, none]) (st1 := st12) ?_ ?_
  · simp_arith [h4']
  refine run_seq (ρ1 := [some (.frz (Is ns)), some d, some (.ref 0), some (.ref 1), some (.ref 11), some (.lst (Ss rooms)), none, none, none, none, none, none, none, none, none]) (st1 := st12) ?_ ?_
  · simp_arith [e6]
  refine run_seq (ρ1 := [some (.frz (Is ns)), some d, some (.ref 0), some (.ref 1), some (.ref 11), some (.lst (Ss rooms)), none, z7, z8, z9, z10, z11, z12, z13, z14]) (st1 := st') ?_ ?_
  · change sFor _ _ (Lb C) _ _ = _
    simp_arith [g1, e5, e4, l4, q_for, q_for1]
    exact g3
  · have mw' : st'[0]? = some (wob (.lst (Ps (p0 :: pl))) (.lst (Rs rows)) (.lst (Ws ways)) (.lst (STS.map Sd)) (.lst us)) := by rw [hwo]; exact mw
    simp_arith [mw', insO_w, q_mth, mt0, lw9, e7, e9, m4, e8]
theorem law_true : ∀ ns : List Int, ns.length ≤ 63 → ∃ st', callF Gx Tx 16 i_law [.frz (ns.map D.int)] [] = .ok (.bl true) st' := by
  intro ns hl
  obtain ⟨rooms, pl, rows, ways, us, T, h1⟩ := tale_run (n := 10) (st := []) hl
  have hp := T.rm.pos
  have lq : pl.length = rooms.length := by rw [← T.pl, List.length_map]
  obtain ⟨p0, pl, rfl⟩ : ∃ a b, pl = a :: b := by
    cases pl with
    | nil => simp at lq; omega
    | cons a r => exact ⟨a, r, rfl⟩
  simp at lq
  obtain ⟨g, nd, l2, l9⟩ := T.facts
  have lw := T.wy
  have lu := T.lu
  have hu := us_tr T.us T.lu
  have tP : Tr 4 (.lst (Ps (p0 :: pl))) := .lst (fun x hx => by
    obtain ⟨q, _, rfl⟩ := List.mem_map.mp hx
    exact .tup (fun y hy => by
      simp only [List.mem_cons, List.not_mem_nil, or_false] at hy
      rcases hy with rfl | rfl
      · exact .str _ _
      · exact .bl _ _) (by simp)) (by unfold Ps; rw [List.length_map, List.length_cons]; omega)
  have tR : Tr 4 (.lst (Rs rows)) := .lst (fun x hx => by
    obtain ⟨q, hq, rfl⟩ := List.mem_map.mp hx
    exact Row.tr (T.rok q hq)) (by unfold Rs; rw [List.length_map]; omega)
  have tW : Tr 4 (.lst (Ws ways)) := .lst (fun x hx => by
    obtain ⟨q, hq, rfl⟩ := List.mem_map.mp hx
    exact (Way.tr q).mono) (by unfold Ws; rw [List.length_map]; omega)
  have tS : Tr 4 (.lst (STS.map Sd)) := .lst (fun x hx => by
    obtain ⟨q, hq, rfl⟩ := List.mem_map.mp hx
    exact .tup (fun y hy => by
      simp only [List.mem_cons, List.not_mem_nil, or_false] at hy
      rcases hy with rfl | rfl
      · exact .str _ _
      · exact .int _ _) (by simp)) (by decide)
  have lP : (Ps (p0 :: pl)).length ≤ 1000 := by unfold Ps; rw [List.length_map, List.length_cons]; omega
  have lR : (Rs rows).length ≤ 1000 := by unfold Rs; rw [List.length_map]; omega
  have lW : (Ws ways).length ≤ 1000 := by unfold Ws; rw [List.length_map]; omega
  have ca : Ca (cF 15) (tlD (p0 :: pl) rows ways us) 0 (G0 0 rows (p0 :: pl) ways) rooms rows :=
    ⟨fun c k st a b => mixed_run (n := 14) a b, fun m book st => effect_run (n := 14) (by omega) hp.1, fun m st => cond_run (n := 14) (by omega) hp.1, fun ds h => T.effs h,
      fun st M S a es h1 h2 h3 h4 h5 h6 h7 => own_eff (n := 12) h1 h2 h3 h4 h5 h6 h7, fun st I S es h1 h2 h3 h4 h5 => st_eff (n := 10) h1 h2 h3 h4 h5, fun st I S h ok => stold_run (n := 14) h ok,
      fun st M S o i h => ltold_run (n := 14) o i rfl h nd, fun st I M S cs h1 h2 h3 h4 h5 => cright_run (n := 10) h1 h2 h3 h4 h5, fun _ => rfl⟩
  obtain ⟨st', g⟩ := law_body (C := cF 15) hl rfl T h1 (made_run (n := 13) (st := []) (by simp; omega) (by omega) (by omega) (by omega))
    (sinit_run (n := 13) (st := [wob (.lst (Ps (p0 :: pl))) (.lst (Rs rows)) (.lst (Ws ways)) (.lst (STS.map Sd)) (.lst us)]) (w := 0) hu (by omega) rfl (by omega) T.rok (by omega) (by omega) (by decide) nd) (fun st => begin_run (n := 14) (by omega) nd) (fun st h => told_run (n := 14) h tP tR tW tS hu lP lR lW (by decide) (by omega)) ca
  refine ⟨?_, ?_⟩
  rotate_left 1
  · show cF (15 + 1) i_law [.frz (Is ns)] [] = _
    rw [cf rfl B_law]
    show runF _ true (P_law (cF 15)) [.frz (Is ns)] [] = _
    unfold runF
    have e0 : startD N_law.length [.frz (Is ns)] = [some (.frz (Is ns)), none, none, none, none, none, none, none, none, none, none, none, none, none, none] := rfl
    show (match P_law (cF 15) (startD N_law.length [.frz (Is ns)]) [] with
      | .nx _ st' => retF true [] .non st'
      | .rt d st' => retF true [] d st'
      | .ex x _ st' => .ex x st'
      | _ => .no) = _
    rw [e0, g]
    dsimp only
    unfold retF
    rw [if_pos rfl, if_pos (show st'.take ([] : Store).length = [] from rfl)]
    rfl
end K20
namespace K20
open PySem L2 Mi
/-! ### what the top has written; the law's own head (printed by gen.py) -/
theorem sc__wall : FnScope N__wall p__wall (defScope s__wall) := ⟨rfl, rfl, rfl, by decide +kernel, rfl, by decide +kernel, by decide +kernel⟩
theorem sc_holds_now : FnScope N_holds_now p_holds_now (defScope s_holds_now) := ⟨rfl, rfl, rfl, by decide +kernel, rfl, by decide +kernel, by decide +kernel⟩
theorem sc_holds_all : FnScope N_holds_all p_holds_all (defScope s_holds_all) := ⟨rfl, rfl, rfl, by decide +kernel, rfl, by decide +kernel, by decide +kernel⟩
theorem sc_move_now : FnScope N_move_now p_move_now (defScope s_move_now) := ⟨rfl, rfl, rfl, by decide +kernel, rfl, by decide +kernel, by decide +kernel⟩
theorem sc_do_effects : FnScope N_do_effects p_do_effects (defScope s_do_effects) := ⟨rfl, rfl, rfl, by decide +kernel, rfl, by decide +kernel, by decide +kernel⟩
theorem sc__law_mixed : FnScope N__law_mixed p__law_mixed (defScope s__law_mixed) := ⟨rfl, rfl, rfl, by decide +kernel, rfl, by decide +kernel, by decide +kernel⟩
theorem sc__law_thing : FnScope N__law_thing p__law_thing (defScope s__law_thing) := ⟨rfl, rfl, rfl, by decide +kernel, rfl, by decide +kernel, by decide +kernel⟩
theorem sc__law_tale_condition : FnScope N__law_tale_condition p__law_tale_condition (defScope s__law_tale_condition) := ⟨rfl, rfl, rfl, by decide +kernel, rfl, by decide +kernel, by decide +kernel⟩
theorem sc__law_tale_effect : FnScope N__law_tale_effect p__law_tale_effect (defScope s__law_tale_effect) := ⟨rfl, rfl, rfl, by decide +kernel, rfl, by decide +kernel, by decide +kernel⟩
theorem sc__law_rule : FnScope N__law_rule p__law_rule (defScope s__law_rule) := ⟨rfl, rfl, rfl, by decide +kernel, rfl, by decide +kernel, by decide +kernel⟩
theorem sc__law_tale : FnScope N__law_tale p__law_tale (defScope s__law_tale) := ⟨rfl, rfl, rfl, by decide +kernel, rfl, by decide +kernel, by decide +kernel⟩
theorem sc__law_made : FnScope N__law_made p__law_made (defScope s__law_made) := ⟨rfl, rfl, rfl, by decide +kernel, rfl, by decide +kernel, by decide +kernel⟩
theorem sc__law_begin : FnScope N__law_begin p__law_begin (defScope s__law_begin) := ⟨rfl, rfl, rfl, by decide +kernel, rfl, by decide +kernel, by decide +kernel⟩
theorem sc__law_outer : FnScope N__law_outer p__law_outer (defScope s__law_outer) := ⟨rfl, rfl, rfl, by decide +kernel, rfl, by decide +kernel, by decide +kernel⟩
theorem sc__law_holds : FnScope N__law_holds p__law_holds (defScope s__law_holds) := ⟨rfl, rfl, rfl, by decide +kernel, rfl, by decide +kernel, by decide +kernel⟩
theorem sc__law_moved : FnScope N__law_moved p__law_moved (defScope s__law_moved) := ⟨rfl, rfl, rfl, by decide +kernel, rfl, by decide +kernel, by decide +kernel⟩
theorem sc__law_effects : FnScope N__law_effects p__law_effects (defScope s__law_effects) := ⟨rfl, rfl, rfl, by decide +kernel, rfl, by decide +kernel, by decide +kernel⟩
theorem sc__law_told_state : FnScope N__law_told_state p__law_told_state (defScope s__law_told_state) := ⟨rfl, rfl, rfl, by decide +kernel, rfl, by decide +kernel, by decide +kernel⟩
theorem sc__law_conditions_right : FnScope N__law_conditions_right p__law_conditions_right (defScope s__law_conditions_right) := ⟨rfl, rfl, rfl, by decide +kernel, rfl, by decide +kernel, by decide +kernel⟩
theorem sc_law : FnScope N_law p_law (defScope s_law) := ⟨rfl, rfl, rfl, by decide +kernel, rfl, by decide +kernel, by decide +kernel⟩
theorem sc_M_State___init__ : FnScope N_M_State___init__ p_M_State___init__ (defScope s_M_State___init__) := ⟨rfl, rfl, rfl, by decide +kernel, rfl, by decide +kernel, by decide +kernel⟩
theorem sc_M_State_told_world : FnScope N_M_State_told_world p_M_State_told_world (defScope s_M_State_told_world) := ⟨rfl, rfl, rfl, by decide +kernel, rfl, by decide +kernel, by decide +kernel⟩
theorem sc_M_State_all_things : FnScope N_M_State_all_things p_M_State_all_things (defScope s_M_State_all_things) := ⟨rfl, rfl, rfl, by decide +kernel, rfl, by decide +kernel, by decide +kernel⟩
theorem sc_M_State_has_trait : FnScope N_M_State_has_trait p_M_State_has_trait (defScope s_M_State_has_trait) := ⟨rfl, rfl, rfl, by decide +kernel, rfl, by decide +kernel, by decide +kernel⟩
theorem sc_M_State_is_dark : FnScope N_M_State_is_dark p_M_State_is_dark (defScope s_M_State_is_dark) := ⟨rfl, rfl, rfl, by decide +kernel, rfl, by decide +kernel, by decide +kernel⟩
theorem sc_M_State_doors_of : FnScope N_M_State_doors_of p_M_State_doors_of (defScope s_M_State_doors_of) := ⟨rfl, rfl, rfl, by decide +kernel, rfl, by decide +kernel, by decide +kernel⟩
theorem sc_M_State_need_thing : FnScope N_M_State_need_thing p_M_State_need_thing (defScope s_M_State_need_thing) := ⟨rfl, rfl, rfl, by decide +kernel, rfl, by decide +kernel, by decide +kernel⟩
theorem sc_M_State_here : FnScope N_M_State_here p_M_State_here (defScope s_M_State_here) := ⟨rfl, rfl, rfl, by decide +kernel, rfl, by decide +kernel, by decide +kernel⟩
theorem sc_M_State_turn : FnScope N_M_State_turn p_M_State_turn (defScope s_M_State_turn) := ⟨rfl, rfl, rfl, by decide +kernel, rfl, by decide +kernel, by decide +kernel⟩
theorem sc_M_State_where : FnScope N_M_State_where p_M_State_where (defScope s_M_State_where) := ⟨rfl, rfl, rfl, by decide +kernel, rfl, by decide +kernel, by decide +kernel⟩
theorem sc_M_State_is_open : FnScope N_M_State_is_open p_M_State_is_open (defScope s_M_State_is_open) := ⟨rfl, rfl, rfl, by decide +kernel, rfl, by decide +kernel, by decide +kernel⟩
theorem sc_M_State_is_worn : FnScope N_M_State_is_worn p_M_State_is_worn (defScope s_M_State_is_worn) := ⟨rfl, rfl, rfl, by decide +kernel, rfl, by decide +kernel, by decide +kernel⟩
theorem sc_M_State_number_of : FnScope N_M_State_number_of p_M_State_number_of (defScope s_M_State_number_of) := ⟨rfl, rfl, rfl, by decide +kernel, rfl, by decide +kernel, by decide +kernel⟩
theorem sc_M_State_holder_has : FnScope N_M_State_holder_has p_M_State_holder_has (defScope s_M_State_holder_has) := ⟨rfl, rfl, rfl, by decide +kernel, rfl, by decide +kernel, by decide +kernel⟩
theorem sc_M_State_is_where : FnScope N_M_State_is_where p_M_State_is_where (defScope s_M_State_is_where) := ⟨rfl, rfl, rfl, by decide +kernel, rfl, by decide +kernel, by decide +kernel⟩
theorem sc_M_State_would_ring : FnScope N_M_State_would_ring p_M_State_would_ring (defScope s_M_State_would_ring) := ⟨rfl, rfl, rfl, by decide +kernel, rfl, by decide +kernel, by decide +kernel⟩
theorem sc_M_State_move_thing : FnScope N_M_State_move_thing p_M_State_move_thing (defScope s_M_State_move_thing) := ⟨rfl, rfl, rfl, by decide +kernel, rfl, by decide +kernel, by decide +kernel⟩
theorem sc_M_State_set_open : FnScope N_M_State_set_open p_M_State_set_open (defScope s_M_State_set_open) := ⟨rfl, rfl, rfl, by decide +kernel, rfl, by decide +kernel, by decide +kernel⟩
theorem sc_M_State_set_worn : FnScope N_M_State_set_worn p_M_State_set_worn (defScope s_M_State_set_worn) := ⟨rfl, rfl, rfl, by decide +kernel, rfl, by decide +kernel, by decide +kernel⟩
theorem sc_M_State_set_number : FnScope N_M_State_set_number p_M_State_set_number (defScope s_M_State_set_number) := ⟨rfl, rfl, rfl, by decide +kernel, rfl, by decide +kernel, by decide +kernel⟩
theorem sc_M_State_go_to : FnScope N_M_State_go_to p_M_State_go_to (defScope s_M_State_go_to) := ⟨rfl, rfl, rfl, by decide +kernel, rfl, by decide +kernel, by decide +kernel⟩
theorem sc_M_State_next_turn : FnScope N_M_State_next_turn p_M_State_next_turn (defScope s_M_State_next_turn) := ⟨rfl, rfl, rfl, by decide +kernel, rfl, by decide +kernel, by decide +kernel⟩
theorem sc_M_State_told : FnScope N_M_State_told p_M_State_told (defScope s_M_State_told) := ⟨rfl, rfl, rfl, by decide +kernel, rfl, by decide +kernel, by decide +kernel⟩
theorem sc_M_State_copied : FnScope N_M_State_copied p_M_State_copied (defScope s_M_State_copied) := ⟨rfl, rfl, rfl, by decide +kernel, rfl, by decide +kernel, by decide +kernel⟩
theorem sc_M_World___init__ : FnScope N_M_World___init__ p_M_World___init__ (defScope s_M_World___init__) := ⟨rfl, rfl, rfl, by decide +kernel, rfl, by decide +kernel, by decide +kernel⟩
theorem sc_M_World_told : FnScope N_M_World_told p_M_World_told (defScope s_M_World_told) := ⟨rfl, rfl, rfl, by decide +kernel, rfl, by decide +kernel, by decide +kernel⟩
theorem all_mk {l : PySem.W.OpenLaw} {w : World} {K : PySem.W.Frag} {h : Heap} {mg : Str → Option Value} {fa : Addr} (X : K.In h) (G : h.Ns mainGlobals mg) (hfa : mg "law" = some (.ref fa))
    {f0 f1 f2 f3 f4 f5 f6 f7 f8 f9 f10 f11 f12 f13 f14 f15 f16 f17 f18 f19 f20 f21 f22 f23 f24 f25 f26 f27 f28 f29 f30 f31 f32 f33 f34 f35 f36 f37 f38 f39 f40 f41 f42 f43 f44 f45 : Addr} {od0 an0 od1 an1 od2 an2 od3 an3 od4 an4 od5 an5 od6 an6 od7 an7 od8 an8 od9 an9 od10 an10 od11 an11 od12 an12 od13 an13 od14 an14 od15 an15 od16 an16 od17 an17 od18 an18 od19 an19 od20 an20 od21 an21 od22 an22 od23 an23 od24 an24 od25 an25 od26 an26 od27 an27 od28 an28 od29 an29 od30 an30 od31 an31 od32 an32 od33 an33 od34 an34 od35 an35 od36 an36 od37 an37 od38 an38 od39 an39 od40 an40 od41 an41 od42 an42 od43 an43 od44 an44 od45 an45 : Option Addr} {sl0 sl1 sl2 sl3 sl4 sl5 sl6 sl7 sl8 sl9 sl10 sl11 sl12 sl13 sl14 sl15 sl16 sl17 sl18 sl19 sl20 sl21 sl22 sl23 sl24 sl25 sl26 sl27 sl28 sl29 sl30 sl31 sl32 sl33 sl34 sl35 sl36 sl37 sl38 sl39 sl40 sl41 sl42 sl43 sl44 sl45 : Array (Option Value)} {oc0 kV0 dc0 pm0 cd0 ct0 oc1 kV1 dc1 pm1 cd1 ct1 oc2 kV2 dc2 pm2 cd2 ct2 oc3 kV3 dc3 pm3 cd3 ct3 oc4 kV4 dc4 pm4 cd4 ct4 oc5 kV5 dc5 pm5 cd5 ct5 oc6 kV6 dc6 pm6 cd6 ct6 oc7 kV7 dc7 pm7 cd7 ct7 oc8 kV8 dc8 pm8 cd8 ct8 oc9 kV9 dc9 pm9 cd9 ct9 oc10 kV10 dc10 pm10 cd10 ct10 oc11 kV11 dc11 pm11 cd11 ct11 oc12 kV12 dc12 pm12 cd12 ct12 oc13 kV13 dc13 pm13 cd13 ct13 oc14 kV14 dc14 pm14 cd14 ct14 oc15 kV15 dc15 pm15 cd15 ct15 oc16 kV16 dc16 pm16 cd16 ct16 oc17 kV17 dc17 pm17 cd17 ct17 oc18 kV18 dc18 pm18 cd18 ct18 oc19 kV19 dc19 pm19 cd19 ct19 oc20 kV20 dc20 pm20 cd20 ct20 oc21 kV21 dc21 pm21 cd21 ct21 oc22 kV22 dc22 pm22 cd22 ct22 oc23 kV23 dc23 pm23 cd23 ct23 oc24 kV24 dc24 pm24 cd24 ct24 oc25 kV25 dc25 pm25 cd25 ct25 oc26 kV26 dc26 pm26 cd26 ct26 oc27 kV27 dc27 pm27 cd27 ct27 oc28 kV28 dc28 pm28 cd28 ct28 oc29 kV29 dc29 pm29 cd29 ct29 oc30 kV30 dc30 pm30 cd30 ct30 oc31 kV31 dc31 pm31 cd31 ct31 oc32 kV32 dc32 pm32 cd32 ct32 oc33 kV33 dc33 pm33 cd33 ct33 oc34 kV34 dc34 pm34 cd34 ct34 oc35 kV35 dc35 pm35 cd35 ct35 oc36 kV36 dc36 pm36 cd36 ct36 oc37 kV37 dc37 pm37 cd37 ct37 oc38 kV38 dc38 pm38 cd38 ct38 oc39 kV39 dc39 pm39 cd39 ct39 oc40 kV40 dc40 pm40 cd40 ct40 oc41 kV41 dc41 pm41 cd41 ct41 oc42 kV42 dc42 pm42 cd42 ct42 oc43 kV43 dc43 pm43 cd43 ct43 oc44 kV44 dc44 pm44 cd44 ct44 oc45 kV45 dc45 pm45 cd45 ct45 : Value}
    {C0 C1 : Addr}
    {E0 : Addr}
    {E1 : Addr}
    {tk0 : Tok}
    (aC0 : PySem.W.nsIn K mainGlobals "State" = some (some (.ref C0))) (pg0 : PySem.W.plainGet K C0 Str.empty = true) (hd0 : PySem.W.hasDictIn K C0 = true) (po0 : PySem.W.plainOver K C0 = true) (sa0 : PySem.W.findIn K (.ref C0) "__setattr__" = some (some (.builtin "object.__setattr__"))) (mk0 : PySem.W.makesIn K C0 = true) (kc0 : PySem.W.keepIn K (.ref C0) = true) (n0_0 : PySem.W.findIn K (.ref C0) "tale" = some none) (n0_1 : PySem.W.findIn K (.ref C0) "rows" = some none) (n0_2 : PySem.W.findIn K (.ref C0) "rooms" = some none) (n0_3 : PySem.W.findIn K (.ref C0) "ways" = some none) (n0_4 : PySem.W.findIn K (.ref C0) "spot" = some none) (n0_5 : PySem.W.findIn K (.ref C0) "moment" = some none) (n0_6 : PySem.W.findIn K (.ref C0) "wheres" = some none) (n0_7 : PySem.W.findIn K (.ref C0) "lids" = some none) (n0_8 : PySem.W.findIn K (.ref C0) "dressed" = some none) (n0_9 : PySem.W.findIn K (.ref C0) "counts" = some none)
    (ia0 : PySem.W.findIn K (.ref C0) "__class__" = some (some (.builtin "object.__class__"))) (im0 : PySem.W.mroIn K C0 (.type "object") = some true)
    (aC1 : PySem.W.nsIn K mainGlobals "World" = some (some (.ref C1))) (pg1 : PySem.W.plainGet K C1 Str.empty = true) (hd1 : PySem.W.hasDictIn K C1 = true) (po1 : PySem.W.plainOver K C1 = true) (sa1 : PySem.W.findIn K (.ref C1) "__setattr__" = some (some (.builtin "object.__setattr__"))) (mk1 : PySem.W.makesIn K C1 = true) (kc1 : PySem.W.keepIn K (.ref C1) = true) (n1_0 : PySem.W.findIn K (.ref C1) "told_places" = some none) (n1_1 : PySem.W.findIn K (.ref C1) "told_things" = some none) (n1_2 : PySem.W.findIn K (.ref C1) "told_ways" = some none) (n1_3 : PySem.W.findIn K (.ref C1) "told_states" = some none) (n1_4 : PySem.W.findIn K (.ref C1) "told_rules" = some none) (n1_5 : PySem.W.findIn K (.ref C1) "told_everies" = some none) (n1_6 : PySem.W.findIn K (.ref C1) "told_scenes" = some none) (n1_7 : PySem.W.findIn K (.ref C1) "told_ends" = some none)
    (ia1 : PySem.W.findIn K (.ref C1) "__class__" = some (some (.builtin "object.__class__"))) (im1 : PySem.W.mroIn K C1 (.type "object") = some true)
    (xa0 : PySem.W.nsIn K mainGlobals "BadState" = some (some (.ref E0))) (xe0 : PySem.W.excIn K E0 [.type "ValueError", .type "Exception", .type "BaseException", .type "object"] "ValueError.__new__" = true) (xk0 : PySem.W.keepIn K (.ref E0) = true) (xb0 : PySem.W.subIn K (.ref E0) (.type "BaseException") = some true) (xt0 : PySem.W.typeIn K (.ref E0) = some (.type "type")) (xd0 : PySem.W.hasDictIn K E0 = true)
    (xa1 : PySem.W.nsIn K mainGlobals "OutOfPlace" = some (some (.ref E1))) (xe1 : PySem.W.excIn K E1 [.type "ValueError", .type "Exception", .type "BaseException", .type "object"] "ValueError.__new__" = true) (xk1 : PySem.W.keepIn K (.ref E1) = true) (xb1 : PySem.W.subIn K (.ref E1) (.type "BaseException") = some true) (xt1 : PySem.W.typeIn K (.ref E1) = some (.type "type")) (xd1 : PySem.W.hasDictIn K E1 = true)
    (xm0_0 : PySem.W.subIn K (.ref E0) (.ref E0) = some true)
    (xm0_1 : PySem.W.subIn K (.ref E0) (.ref E1) = some false)
    (xm1_0 : PySem.W.subIn K (.ref E1) (.ref E0) = some false)
    (xm1_1 : PySem.W.subIn K (.ref E1) (.ref E1) = some true)
    (ign : PySem.W.specialIn K (.builtin "object.__class__") "__get__" = some (some (.builtin "getset_descriptor.__get__"))) (igt : PySem.W.takesIn K (.builtin "object.__class__") = some true)
    (a0 : PySem.W.nsIn K mainGlobals "_wall" = some (some (.ref f0))) (l0 : K.lookup f0 = some ⟨oc0, od0, .func (PySem.W.fnOf "_wall" "_wall" (defArgs s__wall) (defBody s__wall) (defScope s__wall) .none kV0 dc0 pm0 an0 cd0 ct0), sl0⟩) (c0 : PySem.W.codeIn K cd0 "_wall" = true) (k0 : PySem.W.keepIn K (.ref f0) = true)
    (a1 : PySem.W.nsIn K mainGlobals "holds_now" = some (some (.ref f1))) (l1 : K.lookup f1 = some ⟨oc1, od1, .func (PySem.W.fnOf "holds_now" "holds_now" (defArgs s_holds_now) (defBody s_holds_now) (defScope s_holds_now) .none kV1 dc1 pm1 an1 cd1 ct1), sl1⟩) (c1 : PySem.W.codeIn K cd1 "holds_now" = true) (k1 : PySem.W.keepIn K (.ref f1) = true)
    (a2 : PySem.W.nsIn K mainGlobals "holds_all" = some (some (.ref f2))) (l2 : K.lookup f2 = some ⟨oc2, od2, .func (PySem.W.fnOf "holds_all" "holds_all" (defArgs s_holds_all) (defBody s_holds_all) (defScope s_holds_all) .none kV2 dc2 pm2 an2 cd2 ct2), sl2⟩) (c2 : PySem.W.codeIn K cd2 "holds_all" = true) (k2 : PySem.W.keepIn K (.ref f2) = true)
    (a3 : PySem.W.nsIn K mainGlobals "move_now" = some (some (.ref f3))) (l3 : K.lookup f3 = some ⟨oc3, od3, .func (PySem.W.fnOf "move_now" "move_now" (defArgs s_move_now) (defBody s_move_now) (defScope s_move_now) .none kV3 dc3 pm3 an3 cd3 ct3), sl3⟩) (c3 : PySem.W.codeIn K cd3 "move_now" = true) (k3 : PySem.W.keepIn K (.ref f3) = true)
    (a4 : PySem.W.nsIn K mainGlobals "do_effects" = some (some (.ref f4))) (l4 : K.lookup f4 = some ⟨oc4, od4, .func (PySem.W.fnOf "do_effects" "do_effects" (defArgs s_do_effects) (defBody s_do_effects) (defScope s_do_effects) .none kV4 dc4 pm4 an4 cd4 ct4), sl4⟩) (c4 : PySem.W.codeIn K cd4 "do_effects" = true) (k4 : PySem.W.keepIn K (.ref f4) = true)
    (a5 : PySem.W.nsIn K mainGlobals "_law_mixed" = some (some (.ref f5))) (l5 : K.lookup f5 = some ⟨oc5, od5, .func (PySem.W.fnOf "_law_mixed" "_law_mixed" (defArgs s__law_mixed) (defBody s__law_mixed) (defScope s__law_mixed) .none kV5 dc5 pm5 an5 cd5 ct5), sl5⟩) (c5 : PySem.W.codeIn K cd5 "_law_mixed" = true) (k5 : PySem.W.keepIn K (.ref f5) = true)
    (a6 : PySem.W.nsIn K mainGlobals "_law_thing" = some (some (.ref f6))) (l6 : K.lookup f6 = some ⟨oc6, od6, .func (PySem.W.fnOf "_law_thing" "_law_thing" (defArgs s__law_thing) (defBody s__law_thing) (defScope s__law_thing) .none kV6 dc6 pm6 an6 cd6 ct6), sl6⟩) (c6 : PySem.W.codeIn K cd6 "_law_thing" = true) (k6 : PySem.W.keepIn K (.ref f6) = true)
    (a7 : PySem.W.nsIn K mainGlobals "_law_tale_condition" = some (some (.ref f7))) (l7 : K.lookup f7 = some ⟨oc7, od7, .func (PySem.W.fnOf "_law_tale_condition" "_law_tale_condition" (defArgs s__law_tale_condition) (defBody s__law_tale_condition) (defScope s__law_tale_condition) .none kV7 dc7 pm7 an7 cd7 ct7), sl7⟩) (c7 : PySem.W.codeIn K cd7 "_law_tale_condition" = true) (k7 : PySem.W.keepIn K (.ref f7) = true)
    (a8 : PySem.W.nsIn K mainGlobals "_law_tale_effect" = some (some (.ref f8))) (l8 : K.lookup f8 = some ⟨oc8, od8, .func (PySem.W.fnOf "_law_tale_effect" "_law_tale_effect" (defArgs s__law_tale_effect) (defBody s__law_tale_effect) (defScope s__law_tale_effect) .none kV8 dc8 pm8 an8 cd8 ct8), sl8⟩) (c8 : PySem.W.codeIn K cd8 "_law_tale_effect" = true) (k8 : PySem.W.keepIn K (.ref f8) = true)
    (a9 : PySem.W.nsIn K mainGlobals "_law_rule" = some (some (.ref f9))) (l9 : K.lookup f9 = some ⟨oc9, od9, .func (PySem.W.fnOf "_law_rule" "_law_rule" (defArgs s__law_rule) (defBody s__law_rule) (defScope s__law_rule) .none kV9 dc9 pm9 an9 cd9 ct9), sl9⟩) (c9 : PySem.W.codeIn K cd9 "_law_rule" = true) (k9 : PySem.W.keepIn K (.ref f9) = true)
    (a10 : PySem.W.nsIn K mainGlobals "_law_tale" = some (some (.ref f10))) (l10 : K.lookup f10 = some ⟨oc10, od10, .func (PySem.W.fnOf "_law_tale" "_law_tale" (defArgs s__law_tale) (defBody s__law_tale) (defScope s__law_tale) .none kV10 dc10 pm10 an10 cd10 ct10), sl10⟩) (c10 : PySem.W.codeIn K cd10 "_law_tale" = true) (k10 : PySem.W.keepIn K (.ref f10) = true)
    (a11 : PySem.W.nsIn K mainGlobals "_law_made" = some (some (.ref f11))) (l11 : K.lookup f11 = some ⟨oc11, od11, .func (PySem.W.fnOf "_law_made" "_law_made" (defArgs s__law_made) (defBody s__law_made) (defScope s__law_made) .none kV11 dc11 pm11 an11 cd11 ct11), sl11⟩) (c11 : PySem.W.codeIn K cd11 "_law_made" = true) (k11 : PySem.W.keepIn K (.ref f11) = true)
    (a12 : PySem.W.nsIn K mainGlobals "_law_begin" = some (some (.ref f12))) (l12 : K.lookup f12 = some ⟨oc12, od12, .func (PySem.W.fnOf "_law_begin" "_law_begin" (defArgs s__law_begin) (defBody s__law_begin) (defScope s__law_begin) .none kV12 dc12 pm12 an12 cd12 ct12), sl12⟩) (c12 : PySem.W.codeIn K cd12 "_law_begin" = true) (k12 : PySem.W.keepIn K (.ref f12) = true)
    (a13 : PySem.W.nsIn K mainGlobals "_law_outer" = some (some (.ref f13))) (l13 : K.lookup f13 = some ⟨oc13, od13, .func (PySem.W.fnOf "_law_outer" "_law_outer" (defArgs s__law_outer) (defBody s__law_outer) (defScope s__law_outer) .none kV13 dc13 pm13 an13 cd13 ct13), sl13⟩) (c13 : PySem.W.codeIn K cd13 "_law_outer" = true) (k13 : PySem.W.keepIn K (.ref f13) = true)
    (a14 : PySem.W.nsIn K mainGlobals "_law_holds" = some (some (.ref f14))) (l14 : K.lookup f14 = some ⟨oc14, od14, .func (PySem.W.fnOf "_law_holds" "_law_holds" (defArgs s__law_holds) (defBody s__law_holds) (defScope s__law_holds) .none kV14 dc14 pm14 an14 cd14 ct14), sl14⟩) (c14 : PySem.W.codeIn K cd14 "_law_holds" = true) (k14 : PySem.W.keepIn K (.ref f14) = true)
    (a15 : PySem.W.nsIn K mainGlobals "_law_moved" = some (some (.ref f15))) (l15 : K.lookup f15 = some ⟨oc15, od15, .func (PySem.W.fnOf "_law_moved" "_law_moved" (defArgs s__law_moved) (defBody s__law_moved) (defScope s__law_moved) .none kV15 dc15 pm15 an15 cd15 ct15), sl15⟩) (c15 : PySem.W.codeIn K cd15 "_law_moved" = true) (k15 : PySem.W.keepIn K (.ref f15) = true)
    (a16 : PySem.W.nsIn K mainGlobals "_law_effects" = some (some (.ref f16))) (l16 : K.lookup f16 = some ⟨oc16, od16, .func (PySem.W.fnOf "_law_effects" "_law_effects" (defArgs s__law_effects) (defBody s__law_effects) (defScope s__law_effects) .none kV16 dc16 pm16 an16 cd16 ct16), sl16⟩) (c16 : PySem.W.codeIn K cd16 "_law_effects" = true) (k16 : PySem.W.keepIn K (.ref f16) = true)
    (a17 : PySem.W.nsIn K mainGlobals "_law_told_state" = some (some (.ref f17))) (l17 : K.lookup f17 = some ⟨oc17, od17, .func (PySem.W.fnOf "_law_told_state" "_law_told_state" (defArgs s__law_told_state) (defBody s__law_told_state) (defScope s__law_told_state) .none kV17 dc17 pm17 an17 cd17 ct17), sl17⟩) (c17 : PySem.W.codeIn K cd17 "_law_told_state" = true) (k17 : PySem.W.keepIn K (.ref f17) = true)
    (a18 : PySem.W.nsIn K mainGlobals "_law_conditions_right" = some (some (.ref f18))) (l18 : K.lookup f18 = some ⟨oc18, od18, .func (PySem.W.fnOf "_law_conditions_right" "_law_conditions_right" (defArgs s__law_conditions_right) (defBody s__law_conditions_right) (defScope s__law_conditions_right) .none kV18 dc18 pm18 an18 cd18 ct18), sl18⟩) (c18 : PySem.W.codeIn K cd18 "_law_conditions_right" = true) (k18 : PySem.W.keepIn K (.ref f18) = true)
    (a19 : PySem.W.nsIn K mainGlobals "law" = some (some (.ref f19))) (l19 : K.lookup f19 = some ⟨oc19, od19, .func (PySem.W.fnOf "law" "law" (defArgs s_law) (defBody s_law) (defScope s_law) .none kV19 dc19 pm19 an19 cd19 ct19), sl19⟩) (c19 : PySem.W.codeIn K cd19 "law" = true) (k19 : PySem.W.keepIn K (.ref f19) = true)
    (a20 : PySem.W.findIn K (.ref C0) "__init__" = some (some (.ref f20))) (i20 : PySem.W.isFn K (.ref f20) = true) (l20 : K.lookup f20 = some ⟨oc20, od20, .func (PySem.W.fnOf "__init__" "State.__init__" (defArgs s_M_State___init__) (defBody s_M_State___init__) (defScope s_M_State___init__) .none kV20 dc20 pm20 an20 cd20 ct20), sl20⟩) (c20 : PySem.W.codeIn K cd20 "State.__init__" = true) (k20 : PySem.W.keepIn K (.ref f20) = true)
    (a21 : PySem.W.findIn K (.ref C0) "told_world" = some (some (.ref f21))) (i21 : PySem.W.isFn K (.ref f21) = true) (l21 : K.lookup f21 = some ⟨oc21, od21, .func (PySem.W.fnOf "told_world" "State.told_world" (defArgs s_M_State_told_world) (defBody s_M_State_told_world) (defScope s_M_State_told_world) .none kV21 dc21 pm21 an21 cd21 ct21), sl21⟩) (c21 : PySem.W.codeIn K cd21 "State.told_world" = true) (k21 : PySem.W.keepIn K (.ref f21) = true)
    (a22 : PySem.W.findIn K (.ref C0) "all_things" = some (some (.ref f22))) (i22 : PySem.W.isFn K (.ref f22) = true) (l22 : K.lookup f22 = some ⟨oc22, od22, .func (PySem.W.fnOf "all_things" "State.all_things" (defArgs s_M_State_all_things) (defBody s_M_State_all_things) (defScope s_M_State_all_things) .none kV22 dc22 pm22 an22 cd22 ct22), sl22⟩) (c22 : PySem.W.codeIn K cd22 "State.all_things" = true) (k22 : PySem.W.keepIn K (.ref f22) = true)
    (a23 : PySem.W.findIn K (.ref C0) "has_trait" = some (some (.ref f23))) (i23 : PySem.W.isFn K (.ref f23) = true) (l23 : K.lookup f23 = some ⟨oc23, od23, .func (PySem.W.fnOf "has_trait" "State.has_trait" (defArgs s_M_State_has_trait) (defBody s_M_State_has_trait) (defScope s_M_State_has_trait) .none kV23 dc23 pm23 an23 cd23 ct23), sl23⟩) (c23 : PySem.W.codeIn K cd23 "State.has_trait" = true) (k23 : PySem.W.keepIn K (.ref f23) = true)
    (a24 : PySem.W.findIn K (.ref C0) "is_dark" = some (some (.ref f24))) (i24 : PySem.W.isFn K (.ref f24) = true) (l24 : K.lookup f24 = some ⟨oc24, od24, .func (PySem.W.fnOf "is_dark" "State.is_dark" (defArgs s_M_State_is_dark) (defBody s_M_State_is_dark) (defScope s_M_State_is_dark) .none kV24 dc24 pm24 an24 cd24 ct24), sl24⟩) (c24 : PySem.W.codeIn K cd24 "State.is_dark" = true) (k24 : PySem.W.keepIn K (.ref f24) = true)
    (a25 : PySem.W.findIn K (.ref C0) "doors_of" = some (some (.ref f25))) (i25 : PySem.W.isFn K (.ref f25) = true) (l25 : K.lookup f25 = some ⟨oc25, od25, .func (PySem.W.fnOf "doors_of" "State.doors_of" (defArgs s_M_State_doors_of) (defBody s_M_State_doors_of) (defScope s_M_State_doors_of) .none kV25 dc25 pm25 an25 cd25 ct25), sl25⟩) (c25 : PySem.W.codeIn K cd25 "State.doors_of" = true) (k25 : PySem.W.keepIn K (.ref f25) = true)
    (a26 : PySem.W.findIn K (.ref C0) "need_thing" = some (some (.ref f26))) (i26 : PySem.W.isFn K (.ref f26) = true) (l26 : K.lookup f26 = some ⟨oc26, od26, .func (PySem.W.fnOf "need_thing" "State.need_thing" (defArgs s_M_State_need_thing) (defBody s_M_State_need_thing) (defScope s_M_State_need_thing) .none kV26 dc26 pm26 an26 cd26 ct26), sl26⟩) (c26 : PySem.W.codeIn K cd26 "State.need_thing" = true) (k26 : PySem.W.keepIn K (.ref f26) = true)
    (a27 : PySem.W.findIn K (.ref C0) "here" = some (some (.ref f27))) (i27 : PySem.W.isFn K (.ref f27) = true) (l27 : K.lookup f27 = some ⟨oc27, od27, .func (PySem.W.fnOf "here" "State.here" (defArgs s_M_State_here) (defBody s_M_State_here) (defScope s_M_State_here) .none kV27 dc27 pm27 an27 cd27 ct27), sl27⟩) (c27 : PySem.W.codeIn K cd27 "State.here" = true) (k27 : PySem.W.keepIn K (.ref f27) = true)
    (a28 : PySem.W.findIn K (.ref C0) "turn" = some (some (.ref f28))) (i28 : PySem.W.isFn K (.ref f28) = true) (l28 : K.lookup f28 = some ⟨oc28, od28, .func (PySem.W.fnOf "turn" "State.turn" (defArgs s_M_State_turn) (defBody s_M_State_turn) (defScope s_M_State_turn) .none kV28 dc28 pm28 an28 cd28 ct28), sl28⟩) (c28 : PySem.W.codeIn K cd28 "State.turn" = true) (k28 : PySem.W.keepIn K (.ref f28) = true)
    (a29 : PySem.W.findIn K (.ref C0) "where" = some (some (.ref f29))) (i29 : PySem.W.isFn K (.ref f29) = true) (l29 : K.lookup f29 = some ⟨oc29, od29, .func (PySem.W.fnOf "where" "State.where" (defArgs s_M_State_where) (defBody s_M_State_where) (defScope s_M_State_where) .none kV29 dc29 pm29 an29 cd29 ct29), sl29⟩) (c29 : PySem.W.codeIn K cd29 "State.where" = true) (k29 : PySem.W.keepIn K (.ref f29) = true)
    (a30 : PySem.W.findIn K (.ref C0) "is_open" = some (some (.ref f30))) (i30 : PySem.W.isFn K (.ref f30) = true) (l30 : K.lookup f30 = some ⟨oc30, od30, .func (PySem.W.fnOf "is_open" "State.is_open" (defArgs s_M_State_is_open) (defBody s_M_State_is_open) (defScope s_M_State_is_open) .none kV30 dc30 pm30 an30 cd30 ct30), sl30⟩) (c30 : PySem.W.codeIn K cd30 "State.is_open" = true) (k30 : PySem.W.keepIn K (.ref f30) = true)
    (a31 : PySem.W.findIn K (.ref C0) "is_worn" = some (some (.ref f31))) (i31 : PySem.W.isFn K (.ref f31) = true) (l31 : K.lookup f31 = some ⟨oc31, od31, .func (PySem.W.fnOf "is_worn" "State.is_worn" (defArgs s_M_State_is_worn) (defBody s_M_State_is_worn) (defScope s_M_State_is_worn) .none kV31 dc31 pm31 an31 cd31 ct31), sl31⟩) (c31 : PySem.W.codeIn K cd31 "State.is_worn" = true) (k31 : PySem.W.keepIn K (.ref f31) = true)
    (a32 : PySem.W.findIn K (.ref C0) "number_of" = some (some (.ref f32))) (i32 : PySem.W.isFn K (.ref f32) = true) (l32 : K.lookup f32 = some ⟨oc32, od32, .func (PySem.W.fnOf "number_of" "State.number_of" (defArgs s_M_State_number_of) (defBody s_M_State_number_of) (defScope s_M_State_number_of) .none kV32 dc32 pm32 an32 cd32 ct32), sl32⟩) (c32 : PySem.W.codeIn K cd32 "State.number_of" = true) (k32 : PySem.W.keepIn K (.ref f32) = true)
    (a33 : PySem.W.findIn K (.ref C0) "holder_has" = some (some (.ref f33))) (i33 : PySem.W.isFn K (.ref f33) = true) (l33 : K.lookup f33 = some ⟨oc33, od33, .func (PySem.W.fnOf "holder_has" "State.holder_has" (defArgs s_M_State_holder_has) (defBody s_M_State_holder_has) (defScope s_M_State_holder_has) .none kV33 dc33 pm33 an33 cd33 ct33), sl33⟩) (c33 : PySem.W.codeIn K cd33 "State.holder_has" = true) (k33 : PySem.W.keepIn K (.ref f33) = true)
    (a34 : PySem.W.findIn K (.ref C0) "is_where" = some (some (.ref f34))) (i34 : PySem.W.isFn K (.ref f34) = true) (l34 : K.lookup f34 = some ⟨oc34, od34, .func (PySem.W.fnOf "is_where" "State.is_where" (defArgs s_M_State_is_where) (defBody s_M_State_is_where) (defScope s_M_State_is_where) .none kV34 dc34 pm34 an34 cd34 ct34), sl34⟩) (c34 : PySem.W.codeIn K cd34 "State.is_where" = true) (k34 : PySem.W.keepIn K (.ref f34) = true)
    (a35 : PySem.W.findIn K (.ref C0) "would_ring" = some (some (.ref f35))) (i35 : PySem.W.isFn K (.ref f35) = true) (l35 : K.lookup f35 = some ⟨oc35, od35, .func (PySem.W.fnOf "would_ring" "State.would_ring" (defArgs s_M_State_would_ring) (defBody s_M_State_would_ring) (defScope s_M_State_would_ring) .none kV35 dc35 pm35 an35 cd35 ct35), sl35⟩) (c35 : PySem.W.codeIn K cd35 "State.would_ring" = true) (k35 : PySem.W.keepIn K (.ref f35) = true)
    (a36 : PySem.W.findIn K (.ref C0) "move_thing" = some (some (.ref f36))) (i36 : PySem.W.isFn K (.ref f36) = true) (l36 : K.lookup f36 = some ⟨oc36, od36, .func (PySem.W.fnOf "move_thing" "State.move_thing" (defArgs s_M_State_move_thing) (defBody s_M_State_move_thing) (defScope s_M_State_move_thing) .none kV36 dc36 pm36 an36 cd36 ct36), sl36⟩) (c36 : PySem.W.codeIn K cd36 "State.move_thing" = true) (k36 : PySem.W.keepIn K (.ref f36) = true)
    (a37 : PySem.W.findIn K (.ref C0) "set_open" = some (some (.ref f37))) (i37 : PySem.W.isFn K (.ref f37) = true) (l37 : K.lookup f37 = some ⟨oc37, od37, .func (PySem.W.fnOf "set_open" "State.set_open" (defArgs s_M_State_set_open) (defBody s_M_State_set_open) (defScope s_M_State_set_open) .none kV37 dc37 pm37 an37 cd37 ct37), sl37⟩) (c37 : PySem.W.codeIn K cd37 "State.set_open" = true) (k37 : PySem.W.keepIn K (.ref f37) = true)
    (a38 : PySem.W.findIn K (.ref C0) "set_worn" = some (some (.ref f38))) (i38 : PySem.W.isFn K (.ref f38) = true) (l38 : K.lookup f38 = some ⟨oc38, od38, .func (PySem.W.fnOf "set_worn" "State.set_worn" (defArgs s_M_State_set_worn) (defBody s_M_State_set_worn) (defScope s_M_State_set_worn) .none kV38 dc38 pm38 an38 cd38 ct38), sl38⟩) (c38 : PySem.W.codeIn K cd38 "State.set_worn" = true) (k38 : PySem.W.keepIn K (.ref f38) = true)
    (a39 : PySem.W.findIn K (.ref C0) "set_number" = some (some (.ref f39))) (i39 : PySem.W.isFn K (.ref f39) = true) (l39 : K.lookup f39 = some ⟨oc39, od39, .func (PySem.W.fnOf "set_number" "State.set_number" (defArgs s_M_State_set_number) (defBody s_M_State_set_number) (defScope s_M_State_set_number) .none kV39 dc39 pm39 an39 cd39 ct39), sl39⟩) (c39 : PySem.W.codeIn K cd39 "State.set_number" = true) (k39 : PySem.W.keepIn K (.ref f39) = true)
    (a40 : PySem.W.findIn K (.ref C0) "go_to" = some (some (.ref f40))) (i40 : PySem.W.isFn K (.ref f40) = true) (l40 : K.lookup f40 = some ⟨oc40, od40, .func (PySem.W.fnOf "go_to" "State.go_to" (defArgs s_M_State_go_to) (defBody s_M_State_go_to) (defScope s_M_State_go_to) .none kV40 dc40 pm40 an40 cd40 ct40), sl40⟩) (c40 : PySem.W.codeIn K cd40 "State.go_to" = true) (k40 : PySem.W.keepIn K (.ref f40) = true)
    (a41 : PySem.W.findIn K (.ref C0) "next_turn" = some (some (.ref f41))) (i41 : PySem.W.isFn K (.ref f41) = true) (l41 : K.lookup f41 = some ⟨oc41, od41, .func (PySem.W.fnOf "next_turn" "State.next_turn" (defArgs s_M_State_next_turn) (defBody s_M_State_next_turn) (defScope s_M_State_next_turn) .none kV41 dc41 pm41 an41 cd41 ct41), sl41⟩) (c41 : PySem.W.codeIn K cd41 "State.next_turn" = true) (k41 : PySem.W.keepIn K (.ref f41) = true)
    (a42 : PySem.W.findIn K (.ref C0) "told" = some (some (.ref f42))) (i42 : PySem.W.isFn K (.ref f42) = true) (l42 : K.lookup f42 = some ⟨oc42, od42, .func (PySem.W.fnOf "told" "State.told" (defArgs s_M_State_told) (defBody s_M_State_told) (defScope s_M_State_told) .none kV42 dc42 pm42 an42 cd42 ct42), sl42⟩) (c42 : PySem.W.codeIn K cd42 "State.told" = true) (k42 : PySem.W.keepIn K (.ref f42) = true)
    (a43 : PySem.W.findIn K (.ref C0) "copied" = some (some (.ref f43))) (i43 : PySem.W.isFn K (.ref f43) = true) (l43 : K.lookup f43 = some ⟨oc43, od43, .func (PySem.W.fnOf "copied" "State.copied" (defArgs s_M_State_copied) (defBody s_M_State_copied) (defScope s_M_State_copied) .none kV43 dc43 pm43 an43 cd43 ct43), sl43⟩) (c43 : PySem.W.codeIn K cd43 "State.copied" = true) (k43 : PySem.W.keepIn K (.ref f43) = true)
    (a44 : PySem.W.findIn K (.ref C1) "__init__" = some (some (.ref f44))) (i44 : PySem.W.isFn K (.ref f44) = true) (l44 : K.lookup f44 = some ⟨oc44, od44, .func (PySem.W.fnOf "__init__" "World.__init__" (defArgs s_M_World___init__) (defBody s_M_World___init__) (defScope s_M_World___init__) .none kV44 dc44 pm44 an44 cd44 ct44), sl44⟩) (c44 : PySem.W.codeIn K cd44 "World.__init__" = true) (k44 : PySem.W.keepIn K (.ref f44) = true)
    (a45 : PySem.W.findIn K (.ref C1) "told" = some (some (.ref f45))) (i45 : PySem.W.isFn K (.ref f45) = true) (l45 : K.lookup f45 = some ⟨oc45, od45, .func (PySem.W.fnOf "told" "World.told" (defArgs s_M_World_told) (defBody s_M_World_told) (defScope s_M_World_told) .none kV45 dc45 pm45 an45 cd45 ct45), sl45⟩) (c45 : PySem.W.codeIn K cd45 "World.told" = true) (k45 : PySem.W.keepIn K (.ref f45) = true)
    (g0 : PySem.W.nsIn K mainGlobals "MOST_NUMBER" = some (some (.int 9 tk0)))
    (z0 : PySem.W.nsIn K mainGlobals "len" = some none)
    (z1 : PySem.W.nsIn K mainGlobals "list" = some none)
    (z2 : PySem.W.nsIn K mainGlobals "tuple" = some none)
    (z3 : PySem.W.nsIn K mainGlobals "int" = some none)
    (z4 : PySem.W.nsIn K mainGlobals "str" = some none)
    (z5 : PySem.W.nsIn K mainGlobals "sum" = some none)
    (z6 : PySem.W.nsIn K mainGlobals "all" = some none)
    (z7 : PySem.W.nsIn K mainGlobals "isinstance" = some none)
    (z8 : PySem.W.nsIn K mainGlobals "range" = some none)
    (z9 : PySem.W.nsIn K mainGlobals "enumerate" = some none)
    (z10 : PySem.W.nsIn K mainGlobals "bool" = some none)
    (z11 : PySem.W.nsIn K mainGlobals "dict" = some none) :
    ∃ fd : FuncData, (∀ (s : Shared) (v : Value), BindsTo s fd ⟨[v], []⟩ [("_law_script", v)]) ∧ ∀ base : Heap, K.In base → base.Ns mainGlobals mg → FnOk l.prog w K mg base (L2.CX l.prog w) (lev 16) fa fd ["_law_script"] (spLaw K) := by
  have e := hfa.symm.trans (PySem.W.mg_of X G a19)
  cases e
  have F0 := fun_mk (st := s__wall) l0 c0 k0
  have b0 := F0.binds (ps := p__wall) fun _ _ _ _ _ _ us hl => match us, hl with | [_], _ => rfl
  have F1 := fun_mk (st := s_holds_now) l1 c1 k1
  have b1 := F1.binds (ps := p_holds_now) fun _ _ _ _ _ _ us hl => match us, hl with | [_, _, _], _ => rfl
  have F2 := fun_mk (st := s_holds_all) l2 c2 k2
  have b2 := F2.binds (ps := p_holds_all) fun _ _ _ _ _ _ us hl => match us, hl with | [_, _, _], _ => rfl
  have F3 := fun_mk (st := s_move_now) l3 c3 k3
  have b3 := F3.binds (ps := p_move_now) fun _ _ _ _ _ _ us hl => match us, hl with | [_, _, _], _ => rfl
  have F4 := fun_mk (st := s_do_effects) l4 c4 k4
  have b4 := F4.binds (ps := p_do_effects) fun _ _ _ _ _ _ us hl => match us, hl with | [_, _, _], _ => rfl
  have F5 := fun_mk (st := s__law_mixed) l5 c5 k5
  have b5 := F5.binds (ps := p__law_mixed) fun _ _ _ _ _ _ us hl => match us, hl with | [_, _], _ => rfl
  have F6 := fun_mk (st := s__law_thing) l6 c6 k6
  have b6 := F6.binds (ps := p__law_thing) fun _ _ _ _ _ _ us hl => match us, hl with | [_, _, _, _], _ => rfl
  have F7 := fun_mk (st := s__law_tale_condition) l7 c7 k7
  have b7 := F7.binds (ps := p__law_tale_condition) fun _ _ _ _ _ _ us hl => match us, hl with | [_, _, _], _ => rfl
  have F8 := fun_mk (st := s__law_tale_effect) l8 c8 k8
  have b8 := F8.binds (ps := p__law_tale_effect) fun _ _ _ _ _ _ us hl => match us, hl with | [_, _, _, _], _ => rfl
  have F9 := fun_mk (st := s__law_rule) l9 c9 k9
  have b9 := F9.binds (ps := p__law_rule) fun _ _ _ _ _ _ us hl => match us, hl with | [_, _, _], _ => rfl
  have F10 := fun_mk (st := s__law_tale) l10 c10 k10
  have b10 := F10.binds (ps := p__law_tale) fun _ _ _ _ _ _ us hl => match us, hl with | [_], _ => rfl
  have F11 := fun_mk (st := s__law_made) l11 c11 k11
  have b11 := F11.binds (ps := p__law_made) fun _ _ _ _ _ _ us hl => match us, hl with | [_], _ => rfl
  have F12 := fun_mk (st := s__law_begin) l12 c12 k12
  have b12 := F12.binds (ps := p__law_begin) fun _ _ _ _ _ _ us hl => match us, hl with | [_], _ => rfl
  have F13 := fun_mk (st := s__law_outer) l13 c13 k13
  have b13 := F13.binds (ps := p__law_outer) fun _ _ _ _ _ _ us hl => match us, hl with | [_, _], _ => rfl
  have F14 := fun_mk (st := s__law_holds) l14 c14 k14
  have b14 := F14.binds (ps := p__law_holds) fun _ _ _ _ _ _ us hl => match us, hl with | [_, _], _ => rfl
  have F15 := fun_mk (st := s__law_moved) l15 c15 k15
  have b15 := F15.binds (ps := p__law_moved) fun _ _ _ _ _ _ us hl => match us, hl with | [_, _, _], _ => rfl
  have F16 := fun_mk (st := s__law_effects) l16 c16 k16
  have b16 := F16.binds (ps := p__law_effects) fun _ _ _ _ _ _ us hl => match us, hl with | [_, _], _ => rfl
  have F17 := fun_mk (st := s__law_told_state) l17 c17 k17
  have b17 := F17.binds (ps := p__law_told_state) fun _ _ _ _ _ _ us hl => match us, hl with | [_, _, _], _ => rfl
  have F18 := fun_mk (st := s__law_conditions_right) l18 c18 k18
  have b18 := F18.binds (ps := p__law_conditions_right) fun _ _ _ _ _ _ us hl => match us, hl with | [_, _, _, _], _ => rfl
  have F19 := fun_mk (st := s_law) l19 c19 k19
  have F20 := fun_mk (st := s_M_State___init__) l20 c20 k20
  have b20 := F20.binds (ps := p_M_State___init__) fun _ _ _ _ _ _ us hl => match us, hl with | [_, _], _ => rfl
  have F21 := fun_mk (st := s_M_State_told_world) l21 c21 k21
  have b21 := F21.binds (ps := p_M_State_told_world) fun _ _ _ _ _ _ us hl => match us, hl with | [_], _ => rfl
  have F22 := fun_mk (st := s_M_State_all_things) l22 c22 k22
  have b22 := F22.binds (ps := p_M_State_all_things) fun _ _ _ _ _ _ us hl => match us, hl with | [_], _ => rfl
  have F23 := fun_mk (st := s_M_State_has_trait) l23 c23 k23
  have b23 := F23.binds (ps := p_M_State_has_trait) fun _ _ _ _ _ _ us hl => match us, hl with | [_, _, _], _ => rfl
  have F24 := fun_mk (st := s_M_State_is_dark) l24 c24 k24
  have b24 := F24.binds (ps := p_M_State_is_dark) fun _ _ _ _ _ _ us hl => match us, hl with | [_, _], _ => rfl
  have F25 := fun_mk (st := s_M_State_doors_of) l25 c25 k25
  have b25 := F25.binds (ps := p_M_State_doors_of) fun _ _ _ _ _ _ us hl => match us, hl with | [_, _], _ => rfl
  have F26 := fun_mk (st := s_M_State_need_thing) l26 c26 k26
  have b26 := F26.binds (ps := p_M_State_need_thing) fun _ _ _ _ _ _ us hl => match us, hl with | [_, _], _ => rfl
  have F27 := fun_mk (st := s_M_State_here) l27 c27 k27
  have b27 := F27.binds (ps := p_M_State_here) fun _ _ _ _ _ _ us hl => match us, hl with | [_], _ => rfl
  have F28 := fun_mk (st := s_M_State_turn) l28 c28 k28
  have b28 := F28.binds (ps := p_M_State_turn) fun _ _ _ _ _ _ us hl => match us, hl with | [_], _ => rfl
  have F29 := fun_mk (st := s_M_State_where) l29 c29 k29
  have b29 := F29.binds (ps := p_M_State_where) fun _ _ _ _ _ _ us hl => match us, hl with | [_, _], _ => rfl
  have F30 := fun_mk (st := s_M_State_is_open) l30 c30 k30
  have b30 := F30.binds (ps := p_M_State_is_open) fun _ _ _ _ _ _ us hl => match us, hl with | [_, _], _ => rfl
  have F31 := fun_mk (st := s_M_State_is_worn) l31 c31 k31
  have b31 := F31.binds (ps := p_M_State_is_worn) fun _ _ _ _ _ _ us hl => match us, hl with | [_, _], _ => rfl
  have F32 := fun_mk (st := s_M_State_number_of) l32 c32 k32
  have b32 := F32.binds (ps := p_M_State_number_of) fun _ _ _ _ _ _ us hl => match us, hl with | [_, _], _ => rfl
  have F33 := fun_mk (st := s_M_State_holder_has) l33 c33 k33
  have b33 := F33.binds (ps := p_M_State_holder_has) fun _ _ _ _ _ _ us hl => match us, hl with | [_, _, _], _ => rfl
  have F34 := fun_mk (st := s_M_State_is_where) l34 c34 k34
  have b34 := F34.binds (ps := p_M_State_is_where) fun _ _ _ _ _ _ us hl => match us, hl with | [_, _], _ => rfl
  have F35 := fun_mk (st := s_M_State_would_ring) l35 c35 k35
  have b35 := F35.binds (ps := p_M_State_would_ring) fun _ _ _ _ _ _ us hl => match us, hl with | [_, _, _], _ => rfl
  have F36 := fun_mk (st := s_M_State_move_thing) l36 c36 k36
  have b36 := F36.binds (ps := p_M_State_move_thing) fun _ _ _ _ _ _ us hl => match us, hl with | [_, _, _], _ => rfl
  have F37 := fun_mk (st := s_M_State_set_open) l37 c37 k37
  have b37 := F37.binds (ps := p_M_State_set_open) fun _ _ _ _ _ _ us hl => match us, hl with | [_, _, _], _ => rfl
  have F38 := fun_mk (st := s_M_State_set_worn) l38 c38 k38
  have b38 := F38.binds (ps := p_M_State_set_worn) fun _ _ _ _ _ _ us hl => match us, hl with | [_, _, _], _ => rfl
  have F39 := fun_mk (st := s_M_State_set_number) l39 c39 k39
  have b39 := F39.binds (ps := p_M_State_set_number) fun _ _ _ _ _ _ us hl => match us, hl with | [_, _, _], _ => rfl
  have F40 := fun_mk (st := s_M_State_go_to) l40 c40 k40
  have b40 := F40.binds (ps := p_M_State_go_to) fun _ _ _ _ _ _ us hl => match us, hl with | [_, _], _ => rfl
  have F41 := fun_mk (st := s_M_State_next_turn) l41 c41 k41
  have b41 := F41.binds (ps := p_M_State_next_turn) fun _ _ _ _ _ _ us hl => match us, hl with | [_], _ => rfl
  have F42 := fun_mk (st := s_M_State_told) l42 c42 k42
  have b42 := F42.binds (ps := p_M_State_told) fun _ _ _ _ _ _ us hl => match us, hl with | [_], _ => rfl
  have F43 := fun_mk (st := s_M_State_copied) l43 c43 k43
  have b43 := F43.binds (ps := p_M_State_copied) fun _ _ _ _ _ _ us hl => match us, hl with | [_], _ => rfl
  have F44 := fun_mk (st := s_M_World___init__) l44 c44 k44
  have b44 := F44.binds (ps := p_M_World___init__) fun _ _ _ _ _ _ us hl => match us, hl with | [_, _, _, _, _, _, _, _, _], _ => rfl
  have F45 := fun_mk (st := s_M_World_told) l45 c45 k45
  have b45 := F45.binds (ps := p_M_World_told) fun _ _ _ _ _ _ us hl => match us, hl with | [_], _ => rfl
  refine ⟨PySem.W.fnOf "law" "law" (defArgs s_law) (defBody s_law) (defScope s_law) .none kV19 dc19 pm19 an19 cd19 ct19, fun s v => .of_eq rfl, fun base _ _ => ?_⟩
  have bL := F19.binds (ps := p_law) fun _ _ _ _ _ _ us hl => match us, hl with | [_], _ => rfl
  have hcon : AllL (fun p : Str × D => ∃ u v, mg p.1 = some u ∧ RelV v u ∧ ∀ n μ H, Dat K n μ H v p.2) conT := (.cons ⟨_, .int 9, PySem.W.mg_of X G g0, ⟨_, rfl⟩, fun _ _ _ => .int _⟩ .nil)
  have hnob : AllL (fun x : Str => mg x = none) nobT := (.cons (PySem.W.mg_none_of X G z0) (.cons (PySem.W.mg_none_of X G z1) (.cons (PySem.W.mg_none_of X G z2) (.cons (PySem.W.mg_none_of X G z3) (.cons (PySem.W.mg_none_of X G z4) (.cons (PySem.W.mg_none_of X G z5) (.cons (PySem.W.mg_none_of X G z6) (.cons (PySem.W.mg_none_of X G z7) (.cons (PySem.W.mg_none_of X G z8) (.cons (PySem.W.mg_none_of X G z9) (.cons (PySem.W.mg_none_of X G z10) (.cons (PySem.W.mg_none_of X G z11) .nil))))))))))))
  have hfns : AllL (fun p : Str × Nat × Nat => mg p.1 = some (.ref ((fun i => [f0, f1, f2, f3, f4, f5, f6, f7, f8, f9, f10, f11, f12, f13, f14, f15, f16, f17, f18, fa, f20, f21, f22, f23, f24, f25, f26, f27, f28, f29, f30, f31, f32, f33, f34, f35, f36, f37, f38, f39, f40, f41, f42, f43, f44, f45].getD i 0) p.2.1)) ∧ ∃ fe, Tx[p.2.1]? = some fe ∧ fe.ps.length = p.2.2) fnT := (.cons ⟨PySem.W.mg_of X G a0, _, rfl, rfl⟩ (.cons ⟨PySem.W.mg_of X G a1, _, rfl, rfl⟩ (.cons ⟨PySem.W.mg_of X G a2, _, rfl, rfl⟩ (.cons ⟨PySem.W.mg_of X G a3, _, rfl, rfl⟩ (.cons ⟨PySem.W.mg_of X G a4, _, rfl, rfl⟩ (.cons ⟨PySem.W.mg_of X G a5, _, rfl, rfl⟩ (.cons ⟨PySem.W.mg_of X G a6, _, rfl, rfl⟩ (.cons ⟨PySem.W.mg_of X G a7, _, rfl, rfl⟩ (.cons ⟨PySem.W.mg_of X G a8, _, rfl, rfl⟩ (.cons ⟨PySem.W.mg_of X G a9, _, rfl, rfl⟩ (.cons ⟨PySem.W.mg_of X G a10, _, rfl, rfl⟩ (.cons ⟨PySem.W.mg_of X G a11, _, rfl, rfl⟩ (.cons ⟨PySem.W.mg_of X G a12, _, rfl, rfl⟩ (.cons ⟨PySem.W.mg_of X G a13, _, rfl, rfl⟩ (.cons ⟨PySem.W.mg_of X G a14, _, rfl, rfl⟩ (.cons ⟨PySem.W.mg_of X G a15, _, rfl, rfl⟩ (.cons ⟨PySem.W.mg_of X G a16, _, rfl, rfl⟩ (.cons ⟨PySem.W.mg_of X G a17, _, rfl, rfl⟩ (.cons ⟨PySem.W.mg_of X G a18, _, rfl, rfl⟩ (.cons ⟨PySem.W.mg_of X G a19, _, rfl, rfl⟩ .nil))))))))))))))))))))
  have hT : AllI (fun (i : Nat) (fe : FE) => ∃ fd, Fun K fe.name fe.qual fe.sd ((fun i => [f0, f1, f2, f3, f4, f5, f6, f7, f8, f9, f10, f11, f12, f13, f14, f15, f16, f17, f18, fa, f20, f21, f22, f23, f24, f25, f26, f27, f28, f29, f30, f31, f32, f33, f34, f35, f36, f37, f38, f39, f40, f41, f42, f43, f44, f45].getD i 0) i) fd ∧ Binds K fd fe.ps [] ∧ FnScope fe.N fe.ps (defScope fe.sd)) 0 Tx := (.cons ⟨_, F0, b0, sc__wall⟩ (.cons ⟨_, F1, b1, sc_holds_now⟩ (.cons ⟨_, F2, b2, sc_holds_all⟩ (.cons ⟨_, F3, b3, sc_move_now⟩ (.cons ⟨_, F4, b4, sc_do_effects⟩ (.cons ⟨_, F5, b5, sc__law_mixed⟩ (.cons ⟨_, F6, b6, sc__law_thing⟩ (.cons ⟨_, F7, b7, sc__law_tale_condition⟩ (.cons ⟨_, F8, b8, sc__law_tale_effect⟩ (.cons ⟨_, F9, b9, sc__law_rule⟩ (.cons ⟨_, F10, b10, sc__law_tale⟩ (.cons ⟨_, F11, b11, sc__law_made⟩ (.cons ⟨_, F12, b12, sc__law_begin⟩ (.cons ⟨_, F13, b13, sc__law_outer⟩ (.cons ⟨_, F14, b14, sc__law_holds⟩ (.cons ⟨_, F15, b15, sc__law_moved⟩ (.cons ⟨_, F16, b16, sc__law_effects⟩ (.cons ⟨_, F17, b17, sc__law_told_state⟩ (.cons ⟨_, F18, b18, sc__law_conditions_right⟩ (.cons ⟨_, F19, bL, sc_law⟩ (.cons ⟨_, F20, b20, sc_M_State___init__⟩ (.cons ⟨_, F21, b21, sc_M_State_told_world⟩ (.cons ⟨_, F22, b22, sc_M_State_all_things⟩ (.cons ⟨_, F23, b23, sc_M_State_has_trait⟩ (.cons ⟨_, F24, b24, sc_M_State_is_dark⟩ (.cons ⟨_, F25, b25, sc_M_State_doors_of⟩ (.cons ⟨_, F26, b26, sc_M_State_need_thing⟩ (.cons ⟨_, F27, b27, sc_M_State_here⟩ (.cons ⟨_, F28, b28, sc_M_State_turn⟩ (.cons ⟨_, F29, b29, sc_M_State_where⟩ (.cons ⟨_, F30, b30, sc_M_State_is_open⟩ (.cons ⟨_, F31, b31, sc_M_State_is_worn⟩ (.cons ⟨_, F32, b32, sc_M_State_number_of⟩ (.cons ⟨_, F33, b33, sc_M_State_holder_has⟩ (.cons ⟨_, F34, b34, sc_M_State_is_where⟩ (.cons ⟨_, F35, b35, sc_M_State_would_ring⟩ (.cons ⟨_, F36, b36, sc_M_State_move_thing⟩ (.cons ⟨_, F37, b37, sc_M_State_set_open⟩ (.cons ⟨_, F38, b38, sc_M_State_set_worn⟩ (.cons ⟨_, F39, b39, sc_M_State_set_number⟩ (.cons ⟨_, F40, b40, sc_M_State_go_to⟩ (.cons ⟨_, F41, b41, sc_M_State_next_turn⟩ (.cons ⟨_, F42, b42, sc_M_State_told⟩ (.cons ⟨_, F43, b43, sc_M_State_copied⟩ (.cons ⟨_, F44, b44, sc_M_World___init__⟩ (.cons ⟨_, F45, b45, sc_M_World_told⟩ .nil))))))))))))))))))))))))))))))))))))))))))))))
  have hfld : AllL (fun p : Nat × List Str => Cls K ((fun i => [C0, C1].getD i 0) p.1) ∧ AllL (fun f => NoAttr K ((fun i => [C0, C1].getD i 0) p.1) f) p.2) fldT := (.cons ⟨⟨pg0, hd0, po0, sa0⟩, (.cons n0_0 (.cons n0_1 (.cons n0_2 (.cons n0_3 (.cons n0_4 (.cons n0_5 (.cons n0_6 (.cons n0_7 (.cons n0_8 (.cons n0_9 .nil))))))))))⟩ (.cons ⟨⟨pg1, hd1, po1, sa1⟩, (.cons n1_0 (.cons n1_1 (.cons n1_2 (.cons n1_3 (.cons n1_4 (.cons n1_5 (.cons n1_6 (.cons n1_7 .nil))))))))⟩ .nil))
  have hmth : AllL (fun p : (Nat × Str) × (Nat × Nat) => Cls K ((fun i => [C0, C1].getD i 0) p.1.1) ∧ Meth K ((fun i => [C0, C1].getD i 0) p.1.1) p.1.2 ((fun i => [f0, f1, f2, f3, f4, f5, f6, f7, f8, f9, f10, f11, f12, f13, f14, f15, f16, f17, f18, fa, f20, f21, f22, f23, f24, f25, f26, f27, f28, f29, f30, f31, f32, f33, f34, f35, f36, f37, f38, f39, f40, f41, f42, f43, f44, f45].getD i 0) p.2.1) ∧ ∃ fe, Tx[p.2.1]? = some fe ∧ fe.ps.length = p.2.2 + 1) mthT := (.cons ⟨⟨pg0, hd0, po0, sa0⟩, ⟨a21, i21, k21⟩, _, rfl, rfl⟩ (.cons ⟨⟨pg0, hd0, po0, sa0⟩, ⟨a22, i22, k22⟩, _, rfl, rfl⟩ (.cons ⟨⟨pg0, hd0, po0, sa0⟩, ⟨a23, i23, k23⟩, _, rfl, rfl⟩ (.cons ⟨⟨pg0, hd0, po0, sa0⟩, ⟨a24, i24, k24⟩, _, rfl, rfl⟩ (.cons ⟨⟨pg0, hd0, po0, sa0⟩, ⟨a25, i25, k25⟩, _, rfl, rfl⟩ (.cons ⟨⟨pg0, hd0, po0, sa0⟩, ⟨a26, i26, k26⟩, _, rfl, rfl⟩ (.cons ⟨⟨pg0, hd0, po0, sa0⟩, ⟨a27, i27, k27⟩, _, rfl, rfl⟩ (.cons ⟨⟨pg0, hd0, po0, sa0⟩, ⟨a28, i28, k28⟩, _, rfl, rfl⟩ (.cons ⟨⟨pg0, hd0, po0, sa0⟩, ⟨a29, i29, k29⟩, _, rfl, rfl⟩ (.cons ⟨⟨pg0, hd0, po0, sa0⟩, ⟨a30, i30, k30⟩, _, rfl, rfl⟩ (.cons ⟨⟨pg0, hd0, po0, sa0⟩, ⟨a31, i31, k31⟩, _, rfl, rfl⟩ (.cons ⟨⟨pg0, hd0, po0, sa0⟩, ⟨a32, i32, k32⟩, _, rfl, rfl⟩ (.cons ⟨⟨pg0, hd0, po0, sa0⟩, ⟨a33, i33, k33⟩, _, rfl, rfl⟩ (.cons ⟨⟨pg0, hd0, po0, sa0⟩, ⟨a34, i34, k34⟩, _, rfl, rfl⟩ (.cons ⟨⟨pg0, hd0, po0, sa0⟩, ⟨a35, i35, k35⟩, _, rfl, rfl⟩ (.cons ⟨⟨pg0, hd0, po0, sa0⟩, ⟨a36, i36, k36⟩, _, rfl, rfl⟩ (.cons ⟨⟨pg0, hd0, po0, sa0⟩, ⟨a37, i37, k37⟩, _, rfl, rfl⟩ (.cons ⟨⟨pg0, hd0, po0, sa0⟩, ⟨a38, i38, k38⟩, _, rfl, rfl⟩ (.cons ⟨⟨pg0, hd0, po0, sa0⟩, ⟨a39, i39, k39⟩, _, rfl, rfl⟩ (.cons ⟨⟨pg0, hd0, po0, sa0⟩, ⟨a40, i40, k40⟩, _, rfl, rfl⟩ (.cons ⟨⟨pg0, hd0, po0, sa0⟩, ⟨a41, i41, k41⟩, _, rfl, rfl⟩ (.cons ⟨⟨pg0, hd0, po0, sa0⟩, ⟨a42, i42, k42⟩, _, rfl, rfl⟩ (.cons ⟨⟨pg0, hd0, po0, sa0⟩, ⟨a43, i43, k43⟩, _, rfl, rfl⟩ (.cons ⟨⟨pg1, hd1, po1, sa1⟩, ⟨a45, i45, k45⟩, _, rfl, rfl⟩ .nil))))))))))))))))))))))))
  have hcl : AllL (fun p : Str × Nat × Nat × Nat => mg p.1 = some (.ref ((fun i => [C0, C1].getD i 0) p.2.1)) ∧ C8.InsC K ((fun i => [C0, C1].getD i 0) p.2.1) ∧ Mk K ((fun i => [C0, C1].getD i 0) p.2.1) ((fun i => [f0, f1, f2, f3, f4, f5, f6, f7, f8, f9, f10, f11, f12, f13, f14, f15, f16, f17, f18, fa, f20, f21, f22, f23, f24, f25, f26, f27, f28, f29, f30, f31, f32, f33, f34, f35, f36, f37, f38, f39, f40, f41, f42, f43, f44, f45].getD i 0) p.2.2.1) ∧ ∃ fe, Tx[p.2.2.1]? = some fe ∧ fe.ps.length = p.2.2.2 + 1) clT := (.cons ⟨PySem.W.mg_of X G aC0, ⟨⟨pg0, hd0, po0, sa0⟩, ia0, ign, igt, im0, kit_self⟩, ⟨mk0, a20, i20, kc0⟩, _, rfl, rfl⟩ (.cons ⟨PySem.W.mg_of X G aC1, ⟨⟨pg1, hd1, po1, sa1⟩, ia1, ign, igt, im1, kit_self⟩, ⟨mk1, a44, i44, kc1⟩, _, rfl, rfl⟩ .nil))
  have hxc : AllL (fun p : Str × Nat => XcOk ⟨l.prog, w, K, mg, base, (fun i => [C0, C1].getD i 0), (fun i => [E0, E1].getD i 0)⟩ p.1 p.2) xcT := (.cons ⟨PySem.W.mg_of X G xa0, xe0, xk0, xb0, xt0⟩ (.cons ⟨PySem.W.mg_of X G xa1, xe1, xk1, xb1, xt1⟩ .nil))
  have hxs : AllL (fun p : (Nat × Nat) × Bool => PySem.W.exmOne K (.ref ((fun i => [E0, E1].getD i 0) p.1.1)) (.ref ((fun i => [E0, E1].getD i 0) p.1.2)) = some p.2) xsT := (.cons (PySem.W.exm_ref xb0 xd0 xt0 xm0_0) (.cons (PySem.W.exm_ref xb1 xd1 xt1 xm0_1) (.cons (PySem.W.exm_ref xb0 xd0 xt0 xm1_0) (.cons (PySem.W.exm_ref xb1 xd1 xt1 xm1_1) .nil))))
  have t : TOk ⟨l.prog, w, K, mg, base, (fun i => [C0, C1].getD i 0), (fun i => [E0, E1].getD i 0)⟩ Gx Tx (fun i => [f0, f1, f2, f3, f4, f5, f6, f7, f8, f9, f10, f11, f12, f13, f14, f15, f16, f17, f18, fa, f20, f21, f22, f23, f24, f25, f26, f27, f28, f29, f30, f31, f32, f33, f34, f35, f36, f37, f38, f39, f40, f41, f42, f43, f44, f45].getD i 0) := ⟨fun x d q => hcon.mem (lookup_mem q), fun x q => hnob.mem q, fun x i m q => hfns.mem (lookup_mem q), fun i fe q => by have := hT.get q; rwa [Nat.zero_add] at this, ⟨fun c f q => fld_mem (A := fun c => Cls K ((fun i => [C0, C1].getD i 0) c)) (B := fun c f => NoAttr K ((fun i => [C0, C1].getD i 0) c) f) hfld q⟩, fun c m i n q => hmth.mem (lookup_mem q), fun x c i n q => hcl.mem (lookup_mem q), fun x c q => hxc.mem (lookup_mem q), fun i j b q => hxs.mem (lookup_mem q)⟩
  exact (fn_at (fe := ⟨"law", "law", s_law, N_law, p_law, true⟩) (n := 15) (i := 19) t rfl F19 sc_law).imp fun vs H Q E q => law_sp (C := ⟨l.prog, w, K, mg, base, (fun i => [C0, C1].getD i 0), (fun i => [E0, E1].getD i 0)⟩) law_true q
end K20
open PySem PySem.W PyProof.Rows
set_option maxRecDepth 100000 in
set_option maxHeartbeats 0 in
theorem PySem.Challenge.cw_worldtale_k20_conditions_and_effects_holds : PySem.Challenge.rw_worldtale_k20_conditions_and_effects.Holds := by
  w_on; o_law; k_head; (case hw => w_witness2)
  k_fill
  refine Mi.walk (l := PySem.Challenge.rw_worldtale_k20_conditions_and_effects) (n := 16) (x := "_law_script") rfl rfl ⟨rfl, by decide, by decide⟩ (fun w h Y => PySem.W.kIn_of Y) ?F
  case F =>
    intro w mg fa h KX G hmg
    refine' K20.all_mk KX G hmg ?mi_aC0 ?mi_pg0 ?mi_hd0 ?mi_po0 ?mi_sa0 ?mi_mk0 ?mi_kc0 ?mi_n0_0 ?mi_n0_1 ?mi_n0_2 ?mi_n0_3 ?mi_n0_4 ?mi_n0_5 ?mi_n0_6 ?mi_n0_7 ?mi_n0_8 ?mi_n0_9 ?mi_ia0 ?mi_im0 ?mi_aC1 ?mi_pg1 ?mi_hd1 ?mi_po1 ?mi_sa1 ?mi_mk1 ?mi_kc1 ?mi_n1_0 ?mi_n1_1 ?mi_n1_2 ?mi_n1_3 ?mi_n1_4 ?mi_n1_5 ?mi_n1_6 ?mi_n1_7 ?mi_ia1 ?mi_im1 ?mi_xa0 ?mi_xe0 ?mi_xk0 ?mi_xb0 ?mi_xt0 ?mi_xd0 ?mi_xa1 ?mi_xe1 ?mi_xk1 ?mi_xb1 ?mi_xt1 ?mi_xd1 ?mi_xm0_0 ?mi_xm0_1 ?mi_xm1_0 ?mi_xm1_1 ?mi_ign ?mi_igt ?mi_a0 ?mi_l0 ?mi_c0 ?mi_k0 ?mi_a1 ?mi_l1 ?mi_c1 ?mi_k1 ?mi_a2 ?mi_l2 ?mi_c2 ?mi_k2 ?mi_a3 ?mi_l3 ?mi_c3 ?mi_k3 ?mi_a4 ?mi_l4 ?mi_c4 ?mi_k4 ?mi_a5 ?mi_l5 ?mi_c5 ?mi_k5 ?mi_a6 ?mi_l6 ?mi_c6 ?mi_k6 ?mi_a7 ?mi_l7 ?mi_c7 ?mi_k7 ?mi_a8 ?mi_l8 ?mi_c8 ?mi_k8 ?mi_a9 ?mi_l9 ?mi_c9 ?mi_k9 ?mi_a10 ?mi_l10 ?mi_c10 ?mi_k10 ?mi_a11 ?mi_l11 ?mi_c11 ?mi_k11 ?mi_a12 ?mi_l12 ?mi_c12 ?mi_k12 ?mi_a13 ?mi_l13 ?mi_c13 ?mi_k13 ?mi_a14 ?mi_l14 ?mi_c14 ?mi_k14 ?mi_a15 ?mi_l15 ?mi_c15 ?mi_k15 ?mi_a16 ?mi_l16 ?mi_c16 ?mi_k16 ?mi_a17 ?mi_l17 ?mi_c17 ?mi_k17 ?mi_a18 ?mi_l18 ?mi_c18 ?mi_k18 ?mi_a19 ?mi_l19 ?mi_c19 ?mi_k19 ?mi_a20 ?mi_i20 ?mi_l20 ?mi_c20 ?mi_k20 ?mi_a21 ?mi_i21 ?mi_l21 ?mi_c21 ?mi_k21 ?mi_a22 ?mi_i22 ?mi_l22 ?mi_c22 ?mi_k22 ?mi_a23 ?mi_i23 ?mi_l23 ?mi_c23 ?mi_k23 ?mi_a24 ?mi_i24 ?mi_l24 ?mi_c24 ?mi_k24 ?mi_a25 ?mi_i25 ?mi_l25 ?mi_c25 ?mi_k25 ?mi_a26 ?mi_i26 ?mi_l26 ?mi_c26 ?mi_k26 ?mi_a27 ?mi_i27 ?mi_l27 ?mi_c27 ?mi_k27 ?mi_a28 ?mi_i28 ?mi_l28 ?mi_c28 ?mi_k28 ?mi_a29 ?mi_i29 ?mi_l29 ?mi_c29 ?mi_k29 ?mi_a30 ?mi_i30 ?mi_l30 ?mi_c30 ?mi_k30 ?mi_a31 ?mi_i31 ?mi_l31 ?mi_c31 ?mi_k31 ?mi_a32 ?mi_i32 ?mi_l32 ?mi_c32 ?mi_k32 ?mi_a33 ?mi_i33 ?mi_l33 ?mi_c33 ?mi_k33 ?mi_a34 ?mi_i34 ?mi_l34 ?mi_c34 ?mi_k34 ?mi_a35 ?mi_i35 ?mi_l35 ?mi_c35 ?mi_k35 ?mi_a36 ?mi_i36 ?mi_l36 ?mi_c36 ?mi_k36 ?mi_a37 ?mi_i37 ?mi_l37 ?mi_c37 ?mi_k37 ?mi_a38 ?mi_i38 ?mi_l38 ?mi_c38 ?mi_k38 ?mi_a39 ?mi_i39 ?mi_l39 ?mi_c39 ?mi_k39 ?mi_a40 ?mi_i40 ?mi_l40 ?mi_c40 ?mi_k40 ?mi_a41 ?mi_i41 ?mi_l41 ?mi_c41 ?mi_k41 ?mi_a42 ?mi_i42 ?mi_l42 ?mi_c42 ?mi_k42 ?mi_a43 ?mi_i43 ?mi_l43 ?mi_c43 ?mi_k43 ?mi_a44 ?mi_i44 ?mi_l44 ?mi_c44 ?mi_k44 ?mi_a45 ?mi_i45 ?mi_l45 ?mi_c45 ?mi_k45 ?mi_g0 ?mi_z0 ?mi_z1 ?mi_z2 ?mi_z3 ?mi_z4 ?mi_z5 ?mi_z6 ?mi_z7 ?mi_z8 ?mi_z9 ?mi_z10 ?mi_z11
    (case mi_aC0 => k_is)
    (case mi_pg0 => k_is)
    (case mi_hd0 => k_is)
    (case mi_po0 => k_is)
    (case mi_sa0 => k_is)
    (case mi_mk0 => k_is)
    (case mi_kc0 => k_is)
    (case mi_n0_0 => k_is)
    (case mi_n0_1 => k_is)
    (case mi_n0_2 => k_is)
    (case mi_n0_3 => k_is)
    (case mi_n0_4 => k_is)
    (case mi_n0_5 => k_is)
    (case mi_n0_6 => k_is)
    (case mi_n0_7 => k_is)
    (case mi_n0_8 => k_is)
    (case mi_n0_9 => k_is)
    (case mi_ia0 => k_is)
    (case mi_im0 => k_is)
    (case mi_aC1 => k_is)
    (case mi_pg1 => k_is)
    (case mi_hd1 => k_is)
    (case mi_po1 => k_is)
    (case mi_sa1 => k_is)
    (case mi_mk1 => k_is)
    (case mi_kc1 => k_is)
    (case mi_n1_0 => k_is)
    (case mi_n1_1 => k_is)
    (case mi_n1_2 => k_is)
    (case mi_n1_3 => k_is)
    (case mi_n1_4 => k_is)
    (case mi_n1_5 => k_is)
    (case mi_n1_6 => k_is)
    (case mi_n1_7 => k_is)
    (case mi_ia1 => k_is)
    (case mi_im1 => k_is)
    (case mi_xa0 => k_is)
    (case mi_xe0 => k_exc)
    (case mi_xk0 => k_is)
    (case mi_xb0 => k_is)
    (case mi_xt0 => k_is)
    (case mi_xd0 => k_is)
    (case mi_xa1 => k_is)
    (case mi_xe1 => k_exc)
    (case mi_xk1 => k_is)
    (case mi_xb1 => k_is)
    (case mi_xt1 => k_is)
    (case mi_xd1 => k_is)
    (case mi_xm0_0 => k_is)
    (case mi_xm0_1 => k_is)
    (case mi_xm1_0 => k_is)
    (case mi_xm1_1 => k_is)
    (case mi_ign => k_is)
    (case mi_igt => k_is)
    (case mi_a0 => k_is)
    (case mi_l0 => k_is)
    (case mi_c0 => k_is)
    (case mi_k0 => k_is)
    (case mi_a1 => k_is)
    (case mi_l1 => k_is)
    (case mi_c1 => k_is)
    (case mi_k1 => k_is)
    (case mi_a2 => k_is)
    (case mi_l2 => k_is)
    (case mi_c2 => k_is)
    (case mi_k2 => k_is)
    (case mi_a3 => k_is)
    (case mi_l3 => k_is)
    (case mi_c3 => k_is)
    (case mi_k3 => k_is)
    (case mi_a4 => k_is)
    (case mi_l4 => k_is)
    (case mi_c4 => k_is)
    (case mi_k4 => k_is)
    (case mi_a5 => k_is)
    (case mi_l5 => k_is)
    (case mi_c5 => k_is)
    (case mi_k5 => k_is)
    (case mi_a6 => k_is)
    (case mi_l6 => k_is)
    (case mi_c6 => k_is)
    (case mi_k6 => k_is)
    (case mi_a7 => k_is)
    (case mi_l7 => k_is)
    (case mi_c7 => k_is)
    (case mi_k7 => k_is)
    (case mi_a8 => k_is)
    (case mi_l8 => k_is)
    (case mi_c8 => k_is)
    (case mi_k8 => k_is)
    (case mi_a9 => k_is)
    (case mi_l9 => k_is)
    (case mi_c9 => k_is)
    (case mi_k9 => k_is)
    (case mi_a10 => k_is)
    (case mi_l10 => k_is)
    (case mi_c10 => k_is)
    (case mi_k10 => k_is)
    (case mi_a11 => k_is)
    (case mi_l11 => k_is)
    (case mi_c11 => k_is)
    (case mi_k11 => k_is)
    (case mi_a12 => k_is)
    (case mi_l12 => k_is)
    (case mi_c12 => k_is)
    (case mi_k12 => k_is)
    (case mi_a13 => k_is)
    (case mi_l13 => k_is)
    (case mi_c13 => k_is)
    (case mi_k13 => k_is)
    (case mi_a14 => k_is)
    (case mi_l14 => k_is)
    (case mi_c14 => k_is)
    (case mi_k14 => k_is)
    (case mi_a15 => k_is)
    (case mi_l15 => k_is)
    (case mi_c15 => k_is)
    (case mi_k15 => k_is)
    (case mi_a16 => k_is)
    (case mi_l16 => k_is)
    (case mi_c16 => k_is)
    (case mi_k16 => k_is)
    (case mi_a17 => k_is)
    (case mi_l17 => k_is)
    (case mi_c17 => k_is)
    (case mi_k17 => k_is)
    (case mi_a18 => k_is)
    (case mi_l18 => k_is)
    (case mi_c18 => k_is)
    (case mi_k18 => k_is)
    (case mi_a19 => k_is)
    (case mi_l19 => k_is)
    (case mi_c19 => k_is)
    (case mi_k19 => k_is)
    (case mi_a20 => k_is)
    (case mi_i20 => k_is)
    (case mi_l20 => k_is)
    (case mi_c20 => k_is)
    (case mi_k20 => k_is)
    (case mi_a21 => k_is)
    (case mi_i21 => k_is)
    (case mi_l21 => k_is)
    (case mi_c21 => k_is)
    (case mi_k21 => k_is)
    (case mi_a22 => k_is)
    (case mi_i22 => k_is)
    (case mi_l22 => k_is)
    (case mi_c22 => k_is)
    (case mi_k22 => k_is)
    (case mi_a23 => k_is)
    (case mi_i23 => k_is)
    (case mi_l23 => k_is)
    (case mi_c23 => k_is)
    (case mi_k23 => k_is)
    (case mi_a24 => k_is)
    (case mi_i24 => k_is)
    (case mi_l24 => k_is)
    (case mi_c24 => k_is)
    (case mi_k24 => k_is)
    (case mi_a25 => k_is)
    (case mi_i25 => k_is)
    (case mi_l25 => k_is)
    (case mi_c25 => k_is)
    (case mi_k25 => k_is)
    (case mi_a26 => k_is)
    (case mi_i26 => k_is)
    (case mi_l26 => k_is)
    (case mi_c26 => k_is)
    (case mi_k26 => k_is)
    (case mi_a27 => k_is)
    (case mi_i27 => k_is)
    (case mi_l27 => k_is)
    (case mi_c27 => k_is)
    (case mi_k27 => k_is)
    (case mi_a28 => k_is)
    (case mi_i28 => k_is)
    (case mi_l28 => k_is)
    (case mi_c28 => k_is)
    (case mi_k28 => k_is)
    (case mi_a29 => k_is)
    (case mi_i29 => k_is)
    (case mi_l29 => k_is)
    (case mi_c29 => k_is)
    (case mi_k29 => k_is)
    (case mi_a30 => k_is)
    (case mi_i30 => k_is)
    (case mi_l30 => k_is)
    (case mi_c30 => k_is)
    (case mi_k30 => k_is)
    (case mi_a31 => k_is)
    (case mi_i31 => k_is)
    (case mi_l31 => k_is)
    (case mi_c31 => k_is)
    (case mi_k31 => k_is)
    (case mi_a32 => k_is)
    (case mi_i32 => k_is)
    (case mi_l32 => k_is)
    (case mi_c32 => k_is)
    (case mi_k32 => k_is)
    (case mi_a33 => k_is)
    (case mi_i33 => k_is)
    (case mi_l33 => k_is)
    (case mi_c33 => k_is)
    (case mi_k33 => k_is)
    (case mi_a34 => k_is)
    (case mi_i34 => k_is)
    (case mi_l34 => k_is)
    (case mi_c34 => k_is)
    (case mi_k34 => k_is)
    (case mi_a35 => k_is)
    (case mi_i35 => k_is)
    (case mi_l35 => k_is)
    (case mi_c35 => k_is)
    (case mi_k35 => k_is)
    (case mi_a36 => k_is)
    (case mi_i36 => k_is)
    (case mi_l36 => k_is)
    (case mi_c36 => k_is)
    (case mi_k36 => k_is)
    (case mi_a37 => k_is)
    (case mi_i37 => k_is)
    (case mi_l37 => k_is)
    (case mi_c37 => k_is)
    (case mi_k37 => k_is)
    (case mi_a38 => k_is)
    (case mi_i38 => k_is)
    (case mi_l38 => k_is)
    (case mi_c38 => k_is)
    (case mi_k38 => k_is)
    (case mi_a39 => k_is)
    (case mi_i39 => k_is)
    (case mi_l39 => k_is)
    (case mi_c39 => k_is)
    (case mi_k39 => k_is)
    (case mi_a40 => k_is)
    (case mi_i40 => k_is)
    (case mi_l40 => k_is)
    (case mi_c40 => k_is)
    (case mi_k40 => k_is)
    (case mi_a41 => k_is)
    (case mi_i41 => k_is)
    (case mi_l41 => k_is)
    (case mi_c41 => k_is)
    (case mi_k41 => k_is)
    (case mi_a42 => k_is)
    (case mi_i42 => k_is)
    (case mi_l42 => k_is)
    (case mi_c42 => k_is)
    (case mi_k42 => k_is)
    (case mi_a43 => k_is)
    (case mi_i43 => k_is)
    (case mi_l43 => k_is)
    (case mi_c43 => k_is)
    (case mi_k43 => k_is)
    (case mi_a44 => k_is)
    (case mi_i44 => k_is)
    (case mi_l44 => k_is)
    (case mi_c44 => k_is)
    (case mi_k44 => k_is)
    (case mi_a45 => k_is)
    (case mi_i45 => k_is)
    (case mi_l45 => k_is)
    (case mi_c45 => k_is)
    (case mi_k45 => k_is)
    (case mi_g0 => k_is)
    (case mi_z0 => k_is)
    (case mi_z1 => k_is)
    (case mi_z2 => k_is)
    (case mi_z3 => k_is)
    (case mi_z4 => k_is)
    (case mi_z5 => k_is)
    (case mi_z6 => k_is)
    (case mi_z7 => k_is)
    (case mi_z8 => k_is)
    (case mi_z9 => k_is)
    (case mi_z10 => k_is)
    (case mi_z11 => k_is)
