import PyProof.Rows.All
import HandS.SetFor
import PyProof.Rows.InDataRows
import HandS.Defaults
import KE.GoesMore
import PyProof.Rows.EnumRows
import HandS.SetTxt0
import HandS.SetBool
import HandS.Set
import HandS.Zip
import HandS.IsInst
import PyProof.Rows.IntBool
import Wide.All
import OpenK.AllK
import Wide.FinOn
import HandS.ForMost
import HandS.FStr
import PyProof.RulesMatch
import HandS.TupAny
import HandS.More
import HandS.TupMul
import HandS.Iter
import HandS.Text
import PyProof.ReprRoads
import HandS.Star
import PySem.Challenge.RW_fairshown_k07_whole_views
set_option Elab.async false
set_option linter.all false
set_option maxRecDepth 100000
set_option maxHeartbeats 4000000
/-! FS: a layer of pure data over the hand layer: a def's worth is a Lean function of data and of a small store. -/
namespace FS
open PySem PySem.Spec PyProof.Rows L2

/-- data: lists that are only read are data too; what is changed stands in the store, by its number -/
inductive D where
  | non | bl (b : Bool) | int (i : Int) | str (x : Str) | tup (xs : List D) | lst (xs : List D) | scr (xs : List D) | ref (n : Nat)
/-- what may change -/
inductive MO where
  | lst (xs : List D) | dct (kvs : List (Key × D))
abbrev Sto := List MO
abbrev Rho := List (Option D)

/-- the written part; the addresses at which no data may lie (lists in the making) -/
structure KR where
  k : PySem.W.Frag
  rs : Addr → Prop
section
variable (K : KR) (ι : Nat → Addr) (N : Nat) (H : Hp)
def RdL (a : Addr) (vs : List V) : Prop := H a = some (.lst vs) ∧ (∀ m, m < N → ι m ≠ a) ∧ ¬ K.rs a
/-- a list that was given (the script) -/
def RdS (a : Addr) (vs : List V) : Prop := (∃ o, H a = some (.frz o (.lst vs))) ∨
    ∃ (o : Obj) (its : Array Value) (n : Nat), K.k.lookup a = some o ∧ o.cls = .type "list" ∧ o.dict = none ∧ o.data = .seq its n ∧ its.size ≤ sizeLine ∧ Vals vs its.toList
mutual
/-- the value v is the data d -/
inductive At : D → V → Prop
  | non : At .non .non
  | bl (b : Bool) : At (.bl b) (.bl b)
  | int (i : Int) : At (.int i) (.int i)
  | str (x : Str) : At (.str x) (.str x)
  | tup {ds : List D} {a : Addr} {vs : List V} (h : SqT K.k H a vs) (z : vs.length ≤ sizeLine) (l : AtL ds vs) : At (.tup ds) (.ref a)
  | lst {ds : List D} {a : Addr} {vs : List V} (h : RdL K ι N H a vs) (z : vs.length ≤ sizeLine) (l : AtL ds vs) : At (.lst ds) (.ref a)
  | scr {ds : List D} {a : Addr} {vs : List V} (h : RdS K H a vs) (z : vs.length ≤ sizeLine) (l : AtL ds vs) : At (.scr ds) (.ref a)
  | ref {n : Nat} (h : n < N) : At (.ref n) (.ref (ι n))
inductive AtL : List D → List V → Prop
  | nil : AtL [] []
  | cons {d : D} {v : V} {ds : List D} {vs : List V} (h : At d v) (t : AtL ds vs) : AtL (d :: ds) (v :: vs)
end
def KAt : List (Key × D) → List (Key × V) → Prop := Paired fun p q => p.1 = q.1 ∧ At K ι N H p.2 q.2
def MAt (a : Addr) : MO → Prop
  | .lst ds => ∃ vs, H a = some (.lst vs) ∧ AtL K ι N H ds vs ∧ vs.length ≤ sizeLine
  | .dct kvs => ∃ kws, H a = some (.dK kws) ∧ KAt K ι N H kvs kws ∧ kws.length ≤ sizeLine
end
theorem RdL.sq {K : KR} {ι : Nat → Addr} {N : Nat} {H : Hp} {a : Addr} {vs : List V} (h : RdL K ι N H a vs) : SqL K.k H a vs := .of h.1
theorem RdS.sq {K : KR} {H : Hp} {a : Addr} {vs : List V} (h : RdS K H a vs) : SqL K.k H a vs := by
  rcases h with ⟨o, h⟩ | h
  · exact .inl (.inr ⟨o, h⟩)
  · exact .inr h
structure Rel (K : KR) (ι : Nat → Addr) (S : Sto) (H : Hp) : Prop where
  inj : ∀ m n, m < S.length → n < S.length → ι m = ι n → m = n
  obj : ∀ n o, S[n]? = some o → MAt K ι S.length H (ι n) o
  res : ∀ a, K.rs a → ∃ o, H a = some o
structure Ext (ι : Nat → Addr) (N : Nat) (H : Hp) (ι' : Nat → Addr) (N' : Nat) (H' : Hp) : Prop where
  le : N ≤ N'
  eqi : ∀ m, m < N → ι' m = ι m
  new : ∀ m, N ≤ m → m < N' → H (ι' m) = none
  keep : ∀ a o, H a = some o → (∀ m, m < N → ι m ≠ a) → H' a = some o
  live : ∀ a o, H a = some o → ∃ o', H' a = some o'
section
variable {K K0 : KR} {ι ι' ι'' : Nat → Addr} {S S' : Sto} {N N' N'' : Nat} {H H' H'' : Hp}
theorem MAt.kinds {a : Addr} {o : MO} (h : MAt K ι N H a o) : (∃ vs, H a = some (.lst vs)) ∨ ∃ kws, H a = some (.dK kws) := by
  cases o with
  | lst ds => obtain ⟨vs, e, _⟩ := h; exact .inl ⟨vs, e⟩
  | dct kvs => obtain ⟨vs, e, _⟩ := h; exact .inr ⟨vs, e⟩
theorem Rel.there (R : Rel K ι S H) {m : Nat} (h : m < S.length) : (∃ vs, H (ι m) = some (.lst vs)) ∨ ∃ kws, H (ι m) = some (.dK kws) :=
  (R.obj m _ (List.getElem?_eq_getElem h)).kinds
theorem Rel.ne_none (R : Rel K ι S H) {p : Addr} (hp : H p = none) : ∀ m, m < S.length → ι m ≠ p := by
  intro m h e
  rcases R.there h with ⟨vs, q⟩ | ⟨vs, q⟩ <;> (rw [e, hp] at q; cases q)
theorem Ext.refl : Ext ι N H ι N H := ⟨Nat.le_refl _, fun _ _ => rfl, fun m a b => absurd b (Nat.not_lt.mpr a), fun _ _ h _ => h, fun _ o h => ⟨o, h⟩⟩
theorem Ext.unmade (E : Ext ι N H ι' N' H') {a : Addr} (h : H' a = none) : H a = none := by
  cases e : H a with
  | none => rfl
  | some o => obtain ⟨o', q⟩ := E.live a o e; rw [h] at q; cases q
theorem Ext.trans (a : Ext ι N H ι' N' H') (b : Ext ι' N' H' ι'' N'' H'') : Ext ι N H ι'' N'' H'' where
  le := Nat.le_trans a.le b.le
  eqi := fun m h => (b.eqi m (Nat.lt_of_lt_of_le h a.le)).trans (a.eqi m h)
  new := fun m h1 h2 => by
    by_cases hm : m < N'
    · rw [b.eqi m hm]; exact a.new m h1 hm
    · exact a.unmade (b.new m (Nat.le_of_not_lt hm) h2)
  keep := fun c o h hn => b.keep c o (a.keep c o h hn) fun m hm e => by
    by_cases hk : m < N
    · exact hn m hk ((a.eqi m hk).symm.trans e)
    · have q := a.new m (Nat.le_of_not_lt hk) hm
      rw [e, h] at q; cases q
  live := fun c o h => let ⟨o', q⟩ := a.live c o h; b.live c o' q
theorem Rel.notup (R : Rel K ι S H) {a : Addr} {o : HO} (h : H a = some o) (h1 : ∀ vs, o ≠ .lst vs) (h2 : ∀ ks, o ≠ .dK ks) : ∀ m, m < S.length → ι m ≠ a := by
  intro m hm e
  rcases R.there hm with ⟨vs, q⟩ | ⟨vs, q⟩
  · rw [e, h] at q; cases q; exact h1 _ rfl
  · rw [e, h] at q; cases q; exact h2 _ rfl
theorem sqT_mono (R : Rel K0 ι S H) (E : Ext ι S.length H ι' N' H') {a : Addr} {vs : List V} (h : SqT K.k H a vs) : SqT K.k H' a vs := by
  rcases h with (h | ⟨o, h⟩) | h
  · exact .inl (.inl (E.keep a _ h (R.notup h (fun _ z => by cases z) fun _ z => by cases z)))
  · exact .inl (.inr ⟨o, E.keep a _ h (R.notup h (fun _ z => by cases z) fun _ z => by cases z)⟩)
  · exact .inr h
theorem rdL_mono (E : Ext ι N H ι' N' H') {a : Addr} {vs : List V} (h : RdL K ι N H a vs) : RdL K ι' N' H' a vs := by
  refine ⟨E.keep a _ h.1 h.2.1, fun m hm e => ?_, h.2.2⟩
  by_cases hk : m < N
  · exact h.2.1 m hk ((E.eqi m hk).symm.trans e)
  · have q := E.new m (Nat.le_of_not_lt hk) hm
    rw [e, h.1] at q; cases q
theorem rdS_mono (R : Rel K0 ι S H) (E : Ext ι S.length H ι' N' H') {a : Addr} {vs : List V} (h : RdS K H a vs) : RdS K H' a vs := by
  rcases h with ⟨o, h⟩ | h
  · exact .inl ⟨o, E.keep a _ h (R.notup h (fun _ z => by cases z) fun _ z => by cases z)⟩
  · exact .inr h
mutual
theorem At.mono (R : Rel K0 ι S H) (E : Ext ι S.length H ι' N' H') : ∀ {d : D} {v : V}, At K ι S.length H d v → At K ι' N' H' d v
  | _, _, .non => .non
  | _, _, .bl b => .bl b
  | _, _, .int i => .int i
  | _, _, .str x => .str x
  | _, _, .tup h z l => .tup (sqT_mono R E h) z (AtL.mono R E l)
  | _, _, .lst h z l => .lst (rdL_mono E h) z (AtL.mono R E l)
  | _, _, .scr h z l => .scr (rdS_mono R E h) z (AtL.mono R E l)
  | _, _, .ref (n := n) h => by
    rw [← E.eqi n h]
    exact .ref (Nat.lt_of_lt_of_le h E.le)
theorem AtL.mono (R : Rel K0 ι S H) (E : Ext ι S.length H ι' N' H') : ∀ {ds : List D} {vs : List V}, AtL K ι S.length H ds vs → AtL K ι' N' H' ds vs
  | _, _, .nil => .nil
  | _, _, .cons h t => .cons (At.mono R E h) (AtL.mono R E t)
end
mutual
theorem At.wide {rs' : Addr → Prop} (w : ∀ a o, H a = some o → rs' a → K.rs a) : ∀ {d : D} {v : V}, At K ι N H d v → At ⟨K.k, rs'⟩ ι N H d v
  | _, _, .non => .non
  | _, _, .bl b => .bl b
  | _, _, .int i => .int i
  | _, _, .str x => .str x
  | _, _, .tup h z l => .tup h z (AtL.wide w l)
  | _, _, .lst h z l => .lst ⟨h.1, h.2.1, fun q => h.2.2 (w _ _ h.1 q)⟩ z (AtL.wide w l)
  | _, _, .scr h z l => .scr h z (AtL.wide w l)
  | _, _, .ref h => .ref h
theorem AtL.wide {rs' : Addr → Prop} (w : ∀ a o, H a = some o → rs' a → K.rs a) : ∀ {ds : List D} {vs : List V}, AtL K ι N H ds vs → AtL ⟨K.k, rs'⟩ ι N H ds vs
  | _, _, .nil => .nil
  | _, _, .cons h t => .cons (At.wide w h) (AtL.wide w t)
end
theorem KAt.wide {rs' : Addr → Prop} (w : ∀ a o, H a = some o → rs' a → K.rs a) {kvs : List (Key × D)} {kws : List (Key × V)} (h : KAt K ι N H kvs kws) : KAt ⟨K.k, rs'⟩ ι N H kvs kws :=
  Paired.mapP h fun _ _ q => ⟨q.1, q.2.wide w⟩
theorem MAt.wide {rs' : Addr → Prop} (w : ∀ a o, H a = some o → rs' a → K.rs a) {a : Addr} : ∀ {o : MO}, MAt K ι N H a o → MAt ⟨K.k, rs'⟩ ι N H a o
  | .lst _, ⟨vs, h1, h2, h3⟩ => ⟨vs, h1, h2.wide w, h3⟩
  | .dct _, ⟨vs, h1, h2, h3⟩ => ⟨vs, h1, h2.wide w, h3⟩
theorem AtL.length : ∀ {ds : List D} {vs : List V}, AtL K ι N H ds vs → ds.length = vs.length
  | _, _, .nil => rfl
  | _, _, .cons _ t => by simp [AtL.length t]
theorem AtL.get : ∀ {ds : List D} {vs : List V} {i : Nat} {d : D}, AtL K ι N H ds vs → ds[i]? = some d → ∃ v, vs[i]? = some v ∧ At K ι N H d v
  | _, _, 0, _, .cons h _, e => by simp at e; subst e; exact ⟨_, rfl, h⟩
  | _, _, i + 1, _, .cons _ t, e => by
    obtain ⟨v, h1, h2⟩ := AtL.get (i := i) t (by simpa using e)
    exact ⟨v, by simpa using h1, h2⟩
  | _, _, _, _, .nil, e => by simp at e
theorem AtL.append : ∀ {ds es : List D} {vs ws : List V}, AtL K ι N H ds vs → AtL K ι N H es ws → AtL K ι N H (ds ++ es) (vs ++ ws)
  | _, _, _, _, .nil, s => s
  | _, _, _, _, .cons h t, s => .cons h (AtL.append t s)
theorem AtL.take : ∀ {ds : List D} {vs : List V} (n : Nat), AtL K ι N H ds vs → AtL K ι N H (ds.take n) (vs.take n)
  | _, _, 0, _ => .nil
  | _, _, _ + 1, .nil => .nil
  | _, _, n + 1, .cons h t => .cons h (AtL.take n t)
theorem AtL.drop : ∀ {ds : List D} {vs : List V} (n : Nat), AtL K ι N H ds vs → AtL K ι N H (ds.drop n) (vs.drop n)
  | _, _, 0, r => r
  | _, _, _ + 1, .nil => .nil
  | _, _, n + 1, .cons _ t => AtL.drop n t
theorem KAt.mono (R : Rel K0 ι S H) (E : Ext ι S.length H ι' N' H') {kvs : List (Key × D)} {kws : List (Key × V)} (h : KAt K ι S.length H kvs kws) : KAt K ι' N' H' kvs kws :=
  Paired.mapP h fun _ _ q => ⟨q.1, q.2.mono R E⟩
theorem MAt.mono (R : Rel K0 ι S H) (E : Ext ι S.length H ι' N' H') {a a' : Addr} {o : MO} (h : MAt K ι S.length H a o) (e : H' a' = H a) : MAt K ι' N' H' a' o := by
  cases o with
  | lst ds => obtain ⟨vs, h1, h2, h3⟩ := h; exact ⟨vs, e.trans h1, h2.mono R E, h3⟩
  | dct kvs => obtain ⟨vs, h1, h2, h3⟩ := h; exact ⟨vs, e.trans h1, h2.mono R E, h3⟩
/-! ### the steps -/
theorem Ext.fresh {p : Addr} {o : HO} (hp : H p = none) : Ext ι N H ι N (upd H p o) :=
  ⟨Nat.le_refl _, fun _ _ => rfl, fun m a b => absurd b (Nat.not_lt.mpr a), fun a u h _ => by rw [upd_ne (ne_of_none h hp)]; exact h, fun a u h => ⟨u, by rw [upd_ne (ne_of_none h hp)]; exact h⟩⟩
theorem Rel.fresh (R : Rel K ι S H) {p : Addr} {o : HO} (hp : H p = none) : Rel K ι S (upd H p o) :=
  ⟨R.inj, fun n u e => (R.obj n u e).mono R (Ext.fresh hp) (by rw [upd_ne (R.ne_none hp n (List.getElem?_eq_some_iff.mp e).1)]), fun a h => let ⟨u, q⟩ := R.res a h; (Ext.fresh (ι := ι) (N := 0) hp).live a u q⟩
theorem Rel.free (R : Rel K ι S H) {p : Addr} (hp : H p = none) : ¬ K.rs p := fun h => by
  obtain ⟨u, q⟩ := R.res p h
  rw [hp] at q; cases q
def bump (ι : Nat → Addr) (N : Nat) (p : Addr) : Nat → Addr := fun m => if m = N then p else ι m
theorem bump_at {p : Addr} : bump ι N p N = p := if_pos rfl
theorem bump_lt {p : Addr} {m : Nat} (h : m < N) : bump ι N p m = ι m := if_neg (Nat.ne_of_lt h)
theorem Ext.made {p : Addr} {o : HO} (hp : H p = none) : Ext ι N H (bump ι N p) (N + 1) (upd H p o) :=
  ⟨Nat.le_succ _, fun _ h => bump_lt h, fun m a b => by rw [show m = N by omega, bump_at]; exact hp, fun a u h _ => by rw [upd_ne (ne_of_none h hp)]; exact h, fun a u h => ⟨u, by rw [upd_ne (ne_of_none h hp)]; exact h⟩⟩
theorem Rel.made (R : Rel K ι S H) {p : Addr} {o : HO} {u : MO} (hp : H p = none) (hu : MAt K (bump ι S.length p) (S.length + 1) (upd H p o) p u) : Rel K (bump ι S.length p) (S ++ [u]) (upd H p o) := by
  refine ⟨fun m n hm hn e => ?_, fun n x e => ?_, fun a h => let ⟨w, q⟩ := R.res a h; (Ext.made (ι := ι) (N := 0) hp).live a w q⟩
  · rw [List.length_append, List.length_singleton] at hm hn
    by_cases h1 : m < S.length
    · by_cases h2 : n < S.length
      · rw [bump_lt h1, bump_lt h2] at e; exact R.inj m n h1 h2 e
      · rw [bump_lt h1, show n = S.length by omega, bump_at] at e
        exact absurd e (R.ne_none hp m h1)
    · by_cases h2 : n < S.length
      · rw [bump_lt h2, show m = S.length by omega, bump_at] at e
        exact absurd e.symm (R.ne_none hp n h2)
      · omega
  · rw [List.length_append, List.length_singleton]
    by_cases h1 : n < S.length
    · rw [List.getElem?_append_left h1] at e
      exact (R.obj n x e).mono R (Ext.made hp) (by rw [bump_lt h1, upd_ne (R.ne_none hp n h1)])
    · have hn : n = S.length := by
        have := (List.getElem?_eq_some_iff.mp e).1
        rw [List.length_append, List.length_singleton] at this
        omega
      subst hn
      rw [List.getElem?_append_right (Nat.le_refl _), Nat.sub_self] at e
      cases e
      rw [bump_at]
      exact hu
theorem Ext.written {n : Nat} {o : HO} (hn : n < N) : Ext ι N H ι N (upd H (ι n) o) :=
  ⟨Nat.le_refl _, fun _ _ => rfl, fun m a b => absurd b (Nat.not_lt.mpr a), fun a u h hx => by rw [upd_ne (fun e => hx n hn e.symm)]; exact h, fun a u h => by
    by_cases e : a = ι n
    · subst e; exact ⟨o, upd_same⟩
    · exact ⟨u, by rw [upd_ne e]; exact h⟩⟩
theorem Rel.written (R : Rel K ι S H) {n : Nat} {o : HO} {u : MO} (hn : n < S.length) (hu : MAt K ι S.length (upd H (ι n) o) (ι n) u) : Rel K ι (S.set n u) (upd H (ι n) o) := by
  refine ⟨fun a b ha hb e => R.inj a b (by simpa using ha) (by simpa using hb) e, fun m x e => ?_, fun a h => let ⟨w, q⟩ := R.res a h; (Ext.written hn).live a w q⟩
  rw [List.length_set]
  by_cases h : n = m
  · subst h
    rw [List.getElem?_set_self hn] at e
    cases e
    exact hu
  · rw [List.getElem?_set_ne h] at e
    have hm := (List.getElem?_eq_some_iff.mp e).1
    exact (R.obj m x e).mono R (Ext.written hn) (by rw [upd_ne fun z => h (R.inj n m hn hm z.symm)])
end

/-! ### environments -/
def EnvAt (K : KR) (ι : Nat → Addr) (N : Nat) (H : Hp) (ρ : Rho) (σ : L2.St) : Prop :=
  ρ.length = σ.length ∧ ∀ (i : Nat) (d : D), ρ[i]? = some (some d) → ∃ v, σ[i]? = some (some v) ∧ At K ι N H d v
section
variable {K K0 : KR} {ι ι' : Nat → Addr} {S : Sto} {N N' : Nat} {H H' : Hp} {ρ : Rho} {σ : L2.St}
theorem EnvAt.mono (R : Rel K0 ι S H) (E : Ext ι S.length H ι' N' H') (h : EnvAt K ι S.length H ρ σ) : EnvAt K ι' N' H' ρ σ :=
  ⟨h.1, fun i d e => let ⟨v, q, a⟩ := h.2 i d e; ⟨v, q, a.mono R E⟩⟩
theorem EnvAt.set (h : EnvAt K ι N H ρ σ) {i : Nat} {d : D} {v : V} (a : At K ι N H d v) : EnvAt K ι N H (ρ.set i (some d)) (σ.set i (some v)) := by
  refine ⟨by simpa using h.1, fun j e he => ?_⟩
  by_cases hj : i = j
  · subst hj
    by_cases hi : i < ρ.length
    · rw [List.getElem?_set_self hi] at he
      cases he
      exact ⟨v, by rw [List.getElem?_set_self (by rw [← h.1]; exact hi)], a⟩
    · rw [List.getElem?_eq_none (by simpa using hi)] at he; cases he
  · rw [List.getElem?_set_ne hj] at he
    obtain ⟨w, q, b⟩ := h.2 j e he
    exact ⟨w, by rw [List.getElem?_set_ne hj]; exact q, b⟩
end

/-! ### the judgements -/
abbrev G := Rho → Sto → Option (D × Sto)
abbrev Gb := Rho → Sto → Option (Bool × Sto)
abbrev Gs := Rho → Sto → Option (List D × Sto)
inductive Flw where
  | nx | rt (d : D) | bk | ct
abbrev B := Rho → Sto → Option (Flw × Rho × Sto)
def Post (K : KR) (ι : Nat → Addr) (S : Sto) (H : Hp) (S' : Sto) (d : D) (Q : VK) : Prop :=
  ∀ ι' H' v, Ext ι S.length H ι' S'.length H' → Rel K ι' S' H' → At K ι' S'.length H' d v → Q v H'
def PostB (K : KR) (ι : Nat → Addr) (S : Sto) (H : Hp) (S' : Sto) (b : Bool) (Q : Bool → Hp → Prop) : Prop :=
  ∀ ι' H', Ext ι S.length H ι' S'.length H' → Rel K ι' S' H' → Q b H'
def PostL (K : KR) (ι : Nat → Addr) (S : Sto) (H : Hp) (S' : Sto) (ds : List D) (Q : List V → Hp → Prop) : Prop :=
  ∀ ι' H' vs, Ext ι S.length H ι' S'.length H' → Rel K ι' S' H' → AtL K ι' S'.length H' ds vs → Q vs H'
def tE (K : PySem.W.Frag) (f : G) : TE := fun σ H Q => ∃ (rs : Addr → Prop) (ι : Nat → Addr) (ρ : Rho) (S : Sto) (d : D) (S' : Sto), Rel ⟨K, rs⟩ ι S H ∧ EnvAt ⟨K, rs⟩ ι S.length H ρ σ ∧ f ρ S = some (d, S') ∧ Post ⟨K, rs⟩ ι S H S' d Q
def tT (K : PySem.W.Frag) (f : Gb) : TT := fun σ H Q => ∃ (rs : Addr → Prop) (ι : Nat → Addr) (ρ : Rho) (S : Sto) (b : Bool) (S' : Sto), Rel ⟨K, rs⟩ ι S H ∧ EnvAt ⟨K, rs⟩ ι S.length H ρ σ ∧ f ρ S = some (b, S') ∧ PostB ⟨K, rs⟩ ι S H S' b Q
def tL (K : PySem.W.Frag) (f : Gs) : TA := fun σ H Q => ∃ (rs : Addr → Prop) (ι : Nat → Addr) (ρ : Rho) (S : Sto) (ds : List D) (S' : Sto), Rel ⟨K, rs⟩ ι S H ∧ EnvAt ⟨K, rs⟩ ι S.length H ρ σ ∧ f ρ S = some (ds, S') ∧ PostL ⟨K, rs⟩ ι S H S' ds Q
def EndsP (K : KR) (ι : Nat → Addr) (S : Sto) (H : Hp) (D' : Ends) : Flw → Rho → Sto → Prop
  | .nx, ρ', S' => ∀ ι' σ' H', Ext ι S.length H ι' S'.length H' → Rel K ι' S' H' → EnvAt K ι' S'.length H' ρ' σ' → D'.nx σ' H'
  | .bk, ρ', S' => ∀ ι' σ' H', Ext ι S.length H ι' S'.length H' → Rel K ι' S' H' → EnvAt K ι' S'.length H' ρ' σ' → D'.bk σ' H'
  | .ct, ρ', S' => ∀ ι' σ' H', Ext ι S.length H ι' S'.length H' → Rel K ι' S' H' → EnvAt K ι' S'.length H' ρ' σ' → D'.ct σ' H'
  | .rt d, _, S' => Post K ι S H S' d D'.rt
def tS (K : PySem.W.Frag) (f : B) : TS := fun D' σ H => ∃ (rs : Addr → Prop) (ι : Nat → Addr) (ρ : Rho) (S : Sto) (fl : Flw) (ρ' : Rho) (S' : Sto), Rel ⟨K, rs⟩ ι S H ∧ EnvAt ⟨K, rs⟩ ι S.length H ρ σ ∧ f ρ S = some (fl, ρ', S') ∧ EndsP ⟨K, rs⟩ ι S H D' fl ρ' S'
abbrev DE (X : Cx) (e : Expr) (f : G) : Prop := PE X e (tE X.K f)
abbrev DT (X : Cx) (e : Expr) (f : Gb) : Prop := PT X e (tT X.K f)
abbrev DA (X : Cx) (es : List Expr) (f : Gs) : Prop := PA X es (tL X.K f)
abbrev DS (X : Cx) (st : Stmt) (f : B) : Prop := PS X st (tS X.K f)
abbrev DSs (X : Cx) (st : List Stmt) (f : B) : Prop := PSs X st (tS X.K f)
theorem PE.imp {X : Cx} {e : Expr} {t t' : TE} (h : PE X e t) (i : ∀ σ H Q, t' σ H Q → t σ H Q) : PE X e t' := ⟨fun pins s σ H Q I q => h.run pins s σ H Q I (i _ _ _ q)⟩
theorem PT.imp {X : Cx} {e : Expr} {t t' : TT} (h : PT X e t) (i : ∀ σ H Q, t' σ H Q → t σ H Q) : PT X e t' := ⟨fun pins s σ H Q I q => h.run pins s σ H Q I (i _ _ _ q)⟩
theorem PW.imp {X : Cx} {e : Expr} {t t' : TT} (h : PW X e t) (i : ∀ σ H Q, t' σ H Q → t σ H Q) : PW X e t' := ⟨fun wh pins s σ H Q I q => h.run wh pins s σ H Q I (i _ _ _ q)⟩
theorem PA.imp {X : Cx} {e : List Expr} {t t' : TA} (h : PA X e t) (i : ∀ σ H Q, t' σ H Q → t σ H Q) : PA X e t' := ⟨fun pos pins s σ H Q I q => h.run pos pins s σ H Q I (i _ _ _ q)⟩
theorem PS.imp {X : Cx} {st : Stmt} {t t' : TS} (h : PS X st t) (i : ∀ D σ H, t' D σ H → t D σ H) : PS X st t' := ⟨fun pins s σ H D I q => h.run pins s σ H D I (i _ _ _ q)⟩
theorem PSs.imp {X : Cx} {st : List Stmt} {t t' : TS} (h : PSs X st t) (i : ∀ D σ H, t' D σ H → t D σ H) : PSs X st t' := ⟨fun pins s σ H D I q => h.run pins s σ H D I (i _ _ _ q)⟩
/-- an expression's reading from its parts -/
theorem tE.go {K : PySem.W.Frag} {rs : Addr → Prop} {f : G} {ι : Nat → Addr} {ρ : Rho} {S S' : Sto} {d : D} {σ : L2.St} {H : Hp} {Q : VK} (R : Rel ⟨K, rs⟩ ι S H) (En : EnvAt ⟨K, rs⟩ ι S.length H ρ σ) (h : f ρ S = some (d, S'))
    (k : ∀ ι' H' v, Ext ι S.length H ι' S'.length H' → Rel ⟨K, rs⟩ ι' S' H' → EnvAt ⟨K, rs⟩ ι' S'.length H' ρ σ → At ⟨K, rs⟩ ι' S'.length H' d v → Q v H') : tE K f σ H Q :=
  ⟨rs, ι, ρ, S, d, S', R, En, h, fun ι' H' v E R' a => k ι' H' v E R' (En.mono R E) a⟩
theorem tT.go {K : PySem.W.Frag} {rs : Addr → Prop} {f : Gb} {ι : Nat → Addr} {ρ : Rho} {S S' : Sto} {d : Bool} {σ : L2.St} {H : Hp} {Q : Bool → Hp → Prop} (R : Rel ⟨K, rs⟩ ι S H) (En : EnvAt ⟨K, rs⟩ ι S.length H ρ σ) (h : f ρ S = some (d, S'))
    (k : ∀ ι' H', Ext ι S.length H ι' S'.length H' → Rel ⟨K, rs⟩ ι' S' H' → EnvAt ⟨K, rs⟩ ι' S'.length H' ρ σ → Q d H') : tT K f σ H Q :=
  ⟨rs, ι, ρ, S, d, S', R, En, h, fun ι' H' E R' => k ι' H' E R' (En.mono R E)⟩
theorem tL.go {K : PySem.W.Frag} {rs : Addr → Prop} {f : Gs} {ι : Nat → Addr} {ρ : Rho} {S S' : Sto} {d : List D} {σ : L2.St} {H : Hp} {Q : List V → Hp → Prop} (R : Rel ⟨K, rs⟩ ι S H) (En : EnvAt ⟨K, rs⟩ ι S.length H ρ σ) (h : f ρ S = some (d, S'))
    (k : ∀ ι' H' v, Ext ι S.length H ι' S'.length H' → Rel ⟨K, rs⟩ ι' S' H' → EnvAt ⟨K, rs⟩ ι' S'.length H' ρ σ → AtL ⟨K, rs⟩ ι' S'.length H' d v → Q v H') : tL K f σ H Q :=
  ⟨rs, ι, ρ, S, d, S', R, En, h, fun ι' H' v E R' a => k ι' H' v E R' (En.mono R E) a⟩
end FS
set_option Elab.async false
set_option linter.all false
set_option maxRecDepth 100000
set_option maxHeartbeats 4000000
namespace FS
open PySem PySem.Spec PyProof.Rows L2

/-! ### a def's worth -/
abbrev Fn := List D → Sto → Option (D × Sto)
def spOf (K : PySem.W.Frag) (F : Fn) (vs : List V) (H : Hp) (Q : VK) : Prop :=
  ∃ (rs : Addr → Prop) (ι : Nat → Addr) (S : Sto) (ds : List D) (d : D) (S' : Sto), Rel ⟨K, rs⟩ ι S H ∧ AtL ⟨K, rs⟩ ι S.length H ds vs ∧ F ds S = some (d, S') ∧ Post ⟨K, rs⟩ ι S H S' d Q
/-- no exception leaves; nothing is being shown as text around the call -/
structure FG (P : Program) (w : World) (K : PySem.W.Frag) (mg : Str → Option Value) (base : Heap) (k : Nat) (f : Addr) (fd : FuncData) (ps : List Str) (F : Fn) : Prop where
  len : ∀ ds S r, F ds S = some r → ds.length = ps.length
  run : ∀ (A : Around) (outer : List Env) (s : Shared) (H : Hp) (args : Args) (us : List Value) (vs : List V) (Q : VK), Room k A → A.guards = some [] →
    Env0 P w K mg base A outer s H → BindsTo s fd args (ps.zip us) → Vals vs us → spOf K F vs H Q →
    codeAny (model P w) A (.call (.ref f) args) (CR CX0 outer P w H s Q E0) s
theorem FG.mono {P : Program} {w : World} {K : PySem.W.Frag} {mg : Str → Option Value} {base : Heap} {j k : Nat} {f : Addr} {fd : FuncData} {ps : List Str} {F : Fn} (g : FG P w K mg base j f fd ps F) (h : j ≤ k) : FG P w K mg base k f fd ps F :=
  ⟨g.len, fun A outer s H args us vs Q hr => g.run A outer s H args us vs Q (hr.mono h)⟩
theorem FG.imp {P : Program} {w : World} {K : PySem.W.Frag} {mg : Str → Option Value} {base : Heap} {k : Nat} {f : Addr} {fd : FuncData} {ps : List Str} {F F' : Fn} (g : FG P w K mg base k f fd ps F)
    (hl : ∀ ds S r, F' ds S = some r → ds.length = ps.length) (h : ∀ vs H Q, spOf K F' vs H Q → spOf K F vs H Q) : FG P w K mg base k f fd ps F' :=
  ⟨hl, fun A outer s H args us vs Q hr hg e0 hb hv hs => g.run A outer s H args us vs Q hr hg e0 hb hv (h _ _ _ hs)⟩

section
variable {X : Cx} {k : Nat} {f : Addr} {fd : FuncData} {ps : List Str} {F : Fn} {dvs : List V} {ds : List Value} {x : Str} {p pos : Pos} {e : Expr} {es : List Expr} {t : TA}
theorem run_fg {pins : List (Addr × Obj)} {σ : L2.St} {H : Hp} {s : Shared} {Q : VK} {us : List Value} {vs : List V} (g : FG X.prog X.w X.K X.mg X.base k f fd ps F) (hr : Room k X.A) (hgd : X.A.guards = some []) (hb : Binds X.K fd ps ds) (hd : Vals dvs ds)
    (I : Inv X pins σ H s) (r : Vals vs us) (h : spOf X.K F (vs ++ dvs) H Q) : wpAny (model X.prog X.w) X.A (call (.ref f) us) (EP X pins σ Q) X.xe s := by
  have r2 : Vals (vs ++ dvs) (us ++ ds) := Vals.append r hd
  have hl : (us ++ ds).length = ps.length := by
    obtain ⟨rs, ι, S, as, d, S', _, a, hF, _⟩ := h
    rw [← r2.length, ← a.length]
    exact g.len _ _ _ hF
  have go := g.run X.A X.stack s H ⟨us, []⟩ (us ++ ds) (vs ++ dvs) Q hr hgd I.env0 (hb s us I.kIn hl) r2 h
  refine wpAny_call (codeAny_mono go ?_)
  intro res s' hq
  match res, hq with
  | .ok (.ret u), hq => exact I.after hq
  | .ok .next, hq => exact hq.elim
  | .ok .brk, hq => exact hq.elim
  | .ok .cont, hq => exact hq.elim
  | .error e, hq => exact hq.elim
def tCallG (K : PySem.W.Frag) (F : Fn) (dvs : List V) (t : TA) : TE := fun σ H Q => t σ H fun vs H1 => spOf K F (vs ++ dvs) H1 Q
theorem pe_callG (g : FG X.prog X.w X.K X.mg X.base k f fd ps F) (hr : Room k X.A) (hgd : X.A.guards = some []) (hg : Gl X x) (hm : X.mg x = some (.ref f)) (hk : PySem.W.keepIn X.K (.ref f) = true) (hb : Binds X.K fd ps ds) (hd : Vals dvs ds)
    (ha : PA X (e :: es) t) (hdb : (x == ("__debug__" : Str)) = false := by decide) (he : starEach (e :: es) X.env = (false, eval e X.env) :: starEach es X.env := by rfl)
    (hpl : (backTo pos (starEach es X.env)).any (·.1) = false := by rfl) :
    PE X (.Call (.Name x p) (e :: es) [] pos) (tCallG X.K F dvs t) := by
  constructor
  intro pins s σ H Q I h
  apply wpAny_Call_Name_kw
  apply ld_glob I hg hm _ hdb
  have step : ∀ us s1, AP X pins σ (fun vs H1 => spOf X.K F (vs ++ dvs) H1 Q) us s1 → X.K.In s1.heap ∧ wpAny (model X.prog X.w) X.A (call (.ref f) us) (EP X pins σ Q) X.xe s1 := by
    rintro us s1 ⟨vs, H1, I1, r, q⟩
    exact ⟨I1.kIn, run_fg g hr hgd hb hd I1 r q⟩
  exact PySem.W.callWith_K (h₀ := X.base) I.ok.mod.kin hk (thn (ha.run pos pins s σ H _ I h) step) he hpl
theorem pe_callG0 (g : FG X.prog X.w X.K X.mg X.base k f fd ps F) (hr : Room k X.A) (hgd : X.A.guards = some []) (hg : Gl X x) (hm : X.mg x = some (.ref f)) (hk : PySem.W.keepIn X.K (.ref f) = true) (hb : Binds X.K fd ps ds) (hd : Vals dvs ds)
    (hdb : (x == ("__debug__" : Str)) = false := by decide) : PE X (.Call (.Name x p) [] [] pos) (tCallG X.K F dvs tNil) := by
  constructor
  intro pins s σ H Q I h
  apply wpAny_Call_Name_kw
  apply ld_glob I hg hm _ hdb
  exact PySem.W.callWith_K0 I.kIn hk (run_fg (us := []) g hr hgd hb hd I .nil h)
end

/-! ### from a body to a def -/
/-- np parameters, nn names in all -/
def runFn (np nn : Nat) (b : B) : Fn := fun ds S =>
  if ds.length = np then
    match b (ds.map some ++ List.replicate (nn - np) none) S with
    | some (.rt d, _, S') => some (d, S')
    | some (.nx, _, S') => some (.non, S')
    | _ => none
  else none
theorem env_start {K : KR} {ι : Nat → Addr} {N : Nat} {H : Hp} {ds : List D} {vs : List V} {Ns : List Str} {np : Nat} (a : AtL K ι N H ds vs) (hl : ds.length = np) : EnvAt K ι N H (ds.map some ++ List.replicate (Ns.length - np) none) (L2.start Ns vs) := by
  have e := a.length
  refine ⟨by simp only [L2.start, List.length_append, List.length_map, List.length_replicate]; omega, fun i d h => ?_⟩
  by_cases hi : i < ds.length
  · rw [List.getElem?_append_left (by simpa using hi), List.getElem?_map] at h
    obtain ⟨d', h1, h2⟩ := Option.map_eq_some_iff.mp h
    cases h2
    obtain ⟨v, q, b⟩ := a.get h1
    refine ⟨v, ?_, b⟩
    unfold L2.start
    rw [List.getElem?_append_left (by rw [List.length_map]; omega), List.getElem?_map, q]
    rfl
  · rw [List.getElem?_append_right (by simpa using hi), List.getElem?_replicate] at h
    split at h <;> cases h
theorem fg_of {P : Program} {w : World} {K : PySem.W.Frag} {mg : Str → Option Value} {base : Heap} {k : Nat} {f : Addr} {fd : FuncData} {x qual : Str} {st : Stmt} {Ns ps : List Str} {b : B} (F : Fun K x qual st f fd) (S : FnScope Ns ps (defScope st))
    (body : ∀ (cdv : Value) (A : Around) (outer : List Env) (s : Shared) (H : Hp), Room k (A.deeper (envOfC qual (defScope st) s.heap.objs.size f cdv)) → A.guards = some [] →
      DSs (cxOf CX0 P w K mg base Ns qual (defScope st) f cdv A outer s H E0).nox (defBody st) b) : FG P w K mg base (k + 1) f fd ps (runFn ps.length Ns.length b) := by
  obtain ⟨oc, od, kV, doc, pm, an, cdv, ct, osl, rfl, lk, hcd⟩ := F.ex
  constructor
  · intro ds S r h
    unfold runFn at h
    split at h
    · assumption
    · cases h
  · intro A outer s H args us vs Q hr hgd e0 hb r hsp
    have KX : K.In s.heap := e0.mod.kin.keeps fun b o e => (e0.bs b o e).1
    have lim : s.heap.NoLimit := e0.mod.nolimit.keeps fun b o e => (e0.bs b o e).1
    obtain ⟨rs, ι, S0, ds, d, S', R, a, hF, pq⟩ := hsp
    have hl : ds.length = ps.length := by
      unfold runFn at hF
      split at hF
      · assumption
      · cases hF
    have hvl : vs.length = ps.length := by rw [← a.length]; exact hl
    have kinds : ∀ y ∈ ps.zip us, (defScope st).names.lookup y.1 = some .local ∨ ((defScope st).names.lookup y.1 = some .cell ∧ ((cellsFrom (s.heap.objs.size + 1) (defScope st).names []).lookup y.1).isSome = true) := by
      intro y hy
      cases S.par y.1 (List.of_mem_zip (a := y.1) (b := y.2) hy).1 with
      | inl q => exact .inl q
      | inr q => exact .inr ⟨q, PySem.W.cellsFrom_some _ _ _ (.inl q)⟩
    apply codeAny_call_function hr.depth (KX _ _ lk) rfl S.co S.gen rfl (PySem.W.codeRec_of KX hcd) (hb _ _ _ _ _)
    apply wpAny_newFunctionEnv_cells S.kind kinds
    intro env he s1 xx
    subst he
    refine ⟨lim.keeps xx.toInCall.keep, codeAny_func ?_⟩
    have I : Inv (cxOf CX0 P w K mg base Ns qual (defScope st) f cdv A outer s H E0) [] (L2.start Ns vs) H s1 := inv_start S hr.hd e0 hvl r xx
    have hbd := (body cdv A outer s H (hr.deeper _) hgd).nox
    have rd : tS K b { nx := fun _ H' => Q .non H', rt := Q } (L2.start Ns vs) H := by
      unfold runFn at hF
      rw [if_pos hl] at hF
      have En := env_start (Ns := Ns) a hl
      cases hb1 : b (ds.map some ++ List.replicate (Ns.length - ps.length) none) S0 with
      | none => rw [hb1] at hF; cases hF
      | some r1 =>
        obtain ⟨fl, ρ', S1⟩ := r1
        rw [hb1] at hF
        refine ⟨rs, ι, _, S0, fl, ρ', S1, R, En, hb1, ?_⟩
        cases fl with
        | rt d1 => cases hF; exact pq
        | nx => cases hF; exact fun ι' σ' H' E R' _ => pq ι' H' .non E R' .non
        | bk => cases hF
        | ct => cases hF
    refine wpAny_mono (hbd.run [] s1 _ H _ I rd) ?_ fun _ _ hs => hs
    intro fl s' hs
    match fl, hs with
    | .ret u, ⟨v, σ', H', J, rv, q⟩ => exact ⟨v, H', J.os, J.bare, J.base, J.hok, rv, q⟩
    | .next, ⟨σ', H', J, q⟩ => exact ⟨.non, H', J.os, J.bare, J.base, J.hok, rfl, q⟩
    | .brk, ⟨_, _, _, q⟩ => exact q.elim
    | .cont, ⟨_, _, _, q⟩ => exact q.elim

/-! ### what a def has made for itself is let go at its end -/
mutual
/-- all numbers in the data are below n -/
def closed (n : Nat) : D → Bool
  | .tup xs => closedL n xs
  | .lst xs => closedL n xs
  | .scr xs => closedL n xs
  | .ref m => decide (m < n)
  | _ => true
def closedL (n : Nat) : List D → Bool
  | [] => true
  | x :: xs => closed n x && closedL n xs
end
def closedM (n : Nat) : MO → Bool
  | .lst xs => closedL n xs
  | .dct kvs => closedL n (kvs.map (·.2))
/-- the store as it was (what stood may have changed), the value read off -/
def settle (n : Nat) : D × Sto → Option (D × Sto)
  | (d, S') =>
    if n ≤ S'.length ∧ (S'.take n).all (closedM n) = true then
      if closed n d = true then some (d, S'.take n) else
        match d with
        | .ref m => match S'[m]? with
          | some (.lst xs) => if n ≤ m ∧ closedL n xs = true then some (.lst xs, S'.take n) else none
          | _ => none
        | _ => none
    else none
def settled (F : Fn) : Fn := fun ds S => match F ds S with
  | some r => settle S.length r
  | none => none
section
variable {K : KR} {ι : Nat → Addr} {N n : Nat} {H : Hp}
mutual
theorem At.less (hn : n ≤ N) : ∀ {d : D} {v : V}, closed n d = true → At K ι N H d v → At K ι n H d v
  | _, _, _, .non => .non
  | _, _, _, .bl b => .bl b
  | _, _, _, .int i => .int i
  | _, _, _, .str x => .str x
  | _, _, c, .tup h z l => .tup h z (AtL.less hn (by simpa [closed] using c) l)
  | _, _, c, .lst h z l => .lst ⟨h.1, fun m hm => h.2.1 m (Nat.lt_of_lt_of_le hm hn), h.2.2⟩ z (AtL.less hn (by simpa [closed] using c) l)
  | _, _, c, .scr h z l => .scr h z (AtL.less hn (by simpa [closed] using c) l)
  | _, _, c, .ref h => .ref (by simpa [closed] using c)
theorem AtL.less (hn : n ≤ N) : ∀ {ds : List D} {vs : List V}, closedL n ds = true → AtL K ι N H ds vs → AtL K ι n H ds vs
  | _, _, _, .nil => .nil
  | _, _, c, .cons h t => by
    have c' := c
    simp only [closedL, Bool.and_eq_true] at c'
    exact .cons (At.less hn c'.1 h) (AtL.less hn c'.2 t)
end
theorem KAt.less (hn : n ≤ N) : ∀ {kvs : List (Key × D)} {kws : List (Key × V)}, closedL n (kvs.map (·.2)) = true → KAt K ι N H kvs kws → KAt K ι n H kvs kws
  | _, _, _, .nil => .nil
  | _, _, c, .cons h t => by
    have c' := c
    simp only [List.map_cons, closedL, Bool.and_eq_true] at c'
    exact .cons ⟨h.1, h.2.less hn c'.1⟩ (KAt.less hn c'.2 t)
theorem MAt.less (hn : n ≤ N) {a : Addr} : ∀ {o : MO}, closedM n o = true → MAt K ι N H a o → MAt K ι n H a o
  | .lst ds, c, ⟨vs, h1, h2, h3⟩ => ⟨vs, h1, h2.less hn c, h3⟩
  | .dct kvs, c, ⟨vs, h1, h2, h3⟩ => ⟨vs, h1, h2.less hn c, h3⟩
theorem Rel.less {S : Sto} (R : Rel K ι S H) (hn : n ≤ S.length) (c : (S.take n).all (closedM n) = true) : Rel K ι (S.take n) H := by
  have hl : (S.take n).length = n := by rw [List.length_take]; omega
  refine ⟨fun a b ha hb => R.inj a b (by omega) (by omega), fun m o e => ?_, R.res⟩
  rw [hl]
  have hm : m < n := by have := (List.getElem?_eq_some_iff.mp e).1; omega
  have e' : S[m]? = some o := by rw [List.getElem?_take_of_lt hm] at e; exact e
  exact (R.obj m o e').less hn (List.all_eq_true.mp c o (List.mem_of_getElem? e))
theorem Ext.less {ι' : Nat → Addr} {N' : Nat} {H' : Hp} (E : Ext ι N H ι' N' H') : Ext ι N H ι' N H' :=
  ⟨Nat.le_refl _, E.eqi, fun m a b => absurd b (Nat.not_lt.mpr a), E.keep, E.live⟩
end
theorem settled_sp {K : PySem.W.Frag} {F : Fn} {vs : List V} {H : Hp} {Q : VK} (h : spOf K (settled F) vs H Q) : spOf K F vs H Q := by
  obtain ⟨rs, ι, S, ds, d, S', R, a, hF, pq⟩ := h
  unfold settled at hF
  cases e : F ds S with
  | none => rw [e] at hF; cases hF
  | some r =>
    obtain ⟨d1, S1⟩ := r
    rw [e] at hF
    refine ⟨rs, ι, S, ds, d1, S1, R, a, e, fun ι' H' v E R' a1 => ?_⟩
    simp only [settle] at hF
    split at hF
    · rename_i hc
      obtain ⟨hn, hc⟩ := hc
      have hl : (S1.take S.length).length = S.length := by rw [List.length_take]; omega
      have R2 := R'.less hn hc
      split at hF
      · rename_i cd
        cases hF
        exact pq ι' H' v (by rw [hl]; exact E.less) R2 (by rw [hl]; exact a1.less hn cd)
      · split at hF
        · rename_i m _
          split at hF
          · rename_i xs hx
            split at hF
            · rename_i hm
              cases hF
              cases a1 with
              | ref hlt =>
                obtain ⟨ws, q1, q2, q3⟩ := R'.obj m _ hx
                have key : At ⟨K, rs⟩ ι' S.length H' (.lst xs) (.ref (ι' m)) := .lst ⟨q1, fun j hj z => by
                  have := R'.inj j m (by omega) hlt z
                  omega, R.free (E.new m hm.1 hlt)⟩ q3 (q2.less hn hm.2)
                exact pq ι' H' _ (by rw [hl]; exact E.less) R2 (by rw [hl]; exact key)
            · cases hF
          · cases hF
        · cases hF
    · cases hF
theorem FG.settled {P : Program} {w : World} {K : PySem.W.Frag} {mg : Str → Option Value} {base : Heap} {k : Nat} {f : Addr} {fd : FuncData} {ps : List Str} {F : Fn} (g : FG P w K mg base k f fd ps F) : FG P w K mg base k f fd ps (settled F) :=
  g.imp (fun ds S r h => by
    unfold FS.settled at h
    cases e : F ds S with
    | none => rw [e] at h; cases h
    | some r => exact g.len _ _ _ e) fun _ _ _ h => settled_sp h
/-- a def by an equal worth, where that is told -/
theorem FG.by {P : Program} {w : World} {K : PySem.W.Frag} {mg : Str → Option Value} {base : Heap} {k : Nat} {f : Addr} {fd : FuncData} {ps : List Str} {F F' : Fn} (g : FG P w K mg base k f fd ps F) (h : ∀ ds S r, F' ds S = some r → F ds S = some r) : FG P w K mg base k f fd ps F' :=
  g.imp (fun ds S r e => g.len ds S r (h ds S r e)) fun vs H Q ⟨rs, ι, S, ds, d, S', R, a, e, q⟩ => ⟨rs, ι, S, ds, d, S', R, a, h _ _ _ e, q⟩
end FS
set_option Elab.async false
set_option linter.all false
set_option maxRecDepth 100000
set_option maxHeartbeats 4000000
namespace FS
open PySem PySem.Spec PyProof.Rows L2

section
variable {K : KR} {ι ι' : Nat → Addr} {S S' S1 : Sto} {H H' H1 : Hp} {d : D} {Q : VK}
theorem Post.same {v : V} (k : Post K ι S H S d Q) (R : Rel K ι S H) (a : At K ι S.length H d v) : Q v H := k ι H v Ext.refl R a
theorem Post.from {ι1 : Nat → Addr} (k : Post K ι S H S' d Q) (E : Ext ι S.length H ι1 S1.length H1) : Post K ι1 S1 H1 S' d Q := fun ι' H' v E' R' a => k ι' H' v (E.trans E') R' a
theorem Post.tup {ds : List D} {vs : List V} {p : Addr} (k : Post K ι S H S (.tup ds) Q) (R : Rel K ι S H) (hp : H p = none) (z : vs.length ≤ sizeLine) (l : AtL K ι S.length H ds vs) : Q (.ref p) (upd H p (.tup vs)) :=
  k ι _ _ (Ext.fresh hp) (R.fresh hp) (.tup (.inl (.inl upd_same)) z (l.mono R (Ext.fresh hp)))
theorem Post.lst {ds : List D} {vs : List V} {p : Addr} (k : Post K ι S H S (.lst ds) Q) (R : Rel K ι S H) (hp : H p = none) (z : vs.length ≤ sizeLine) (l : AtL K ι S.length H ds vs) : Q (.ref p) (upd H p (.lst vs)) :=
  k ι _ _ (Ext.fresh hp) (R.fresh hp) (.lst ⟨upd_same, R.ne_none hp, R.free hp⟩ z (l.mono R (Ext.fresh hp)))
theorem Post.newL {ds : List D} {vs : List V} {p : Addr} (k : Post K ι S H (S ++ [.lst ds]) (.ref S.length) Q) (R : Rel K ι S H) (hp : H p = none) (z : vs.length ≤ sizeLine) (l : AtL K ι S.length H ds vs) : Q (.ref p) (upd H p (.lst vs)) := by
  have hl : (S ++ [MO.lst ds]).length = S.length + 1 := by simp
  have k' := k (bump ι S.length p) (upd H p (.lst vs)) (.ref p)
  rw [hl] at k'
  exact k' (Ext.made hp) (R.made hp ⟨vs, upd_same, l.mono R (Ext.made hp), z⟩) (by
    have q : At K (bump ι S.length p) (S.length + 1) (upd H p (.lst vs)) (.ref S.length) (.ref (bump ι S.length p S.length)) := .ref (Nat.lt_succ_self _)
    rw [bump_at] at q
    exact q)
theorem Post.newD {kvs : List (Key × D)} {kws : List (Key × V)} {p : Addr} (k : Post K ι S H (S ++ [.dct kvs]) (.ref S.length) Q) (R : Rel K ι S H) (hp : H p = none) (z : kws.length ≤ sizeLine) (l : KAt K ι S.length H kvs kws) : Q (.ref p) (upd H p (.dK kws)) := by
  have hl : (S ++ [MO.dct kvs]).length = S.length + 1 := by simp
  have k' := k (bump ι S.length p) (upd H p (.dK kws)) (.ref p)
  rw [hl] at k'
  exact k' (Ext.made hp) (R.made hp ⟨kws, upd_same, l.mono R (Ext.made hp), z⟩) (by
    have q : At K (bump ι S.length p) (S.length + 1) (upd H p (.dK kws)) (.ref S.length) (.ref (bump ι S.length p S.length)) := .ref (Nat.lt_succ_self _)
    rw [bump_at] at q
    exact q)
/-- the list that the data is, wherever it stands -/
def lsOf (S : Sto) : D → Option (List D)
  | .lst xs => some xs
  | .scr xs => some xs
  | .ref n => match S[n]? with
    | some (.lst xs) => some xs
    | _ => none
  | _ => none
/-- .. that was made here -/
def lmOf (S : Sto) : D → Option (List D)
  | .lst xs => some xs
  | .ref n => match S[n]? with
    | some (.lst xs) => some xs
    | _ => none
  | _ => none
theorem lmOf_at {xs : List D} {v : V} (R : Rel K ι S H) (a : At K ι S.length H d v) (h : lmOf S d = some xs) : ∃ p vs, v = .ref p ∧ H p = some (.lst vs) ∧ vs.length ≤ sizeLine ∧ AtL K ι S.length H xs vs := by
  cases a with
  | lst q z l => cases h; exact ⟨_, _, rfl, q.1, z, l⟩
  | @ref n hn =>
    simp only [lmOf] at h
    split at h
    · rename_i ys e
      cases h
      obtain ⟨vs, q, l, z⟩ := R.obj n _ e
      exact ⟨_, vs, rfl, q, z, l⟩
    · cases h
  | _ => cases h
def sqOf (S : Sto) : D → Option (List D)
  | .tup xs => some xs
  | d => lsOf S d
theorem lsOf_at {xs : List D} {v : V} (R : Rel K ι S H) (a : At K ι S.length H d v) (h : lsOf S d = some xs) : ∃ p vs, v = .ref p ∧ SqL K.k H p vs ∧ vs.length ≤ sizeLine ∧ AtL K ι S.length H xs vs := by
  cases a with
  | lst q z l => cases h; exact ⟨_, _, rfl, q.sq, z, l⟩
  | scr q z l => cases h; exact ⟨_, _, rfl, q.sq, z, l⟩
  | @ref n hn =>
    simp only [lsOf] at h
    split at h
    · rename_i ys e
      cases h
      obtain ⟨vs, q, l, z⟩ := R.obj n _ e
      exact ⟨_, vs, rfl, .of q, z, l⟩
    · cases h
  | _ => cases h
theorem sqOf_at {xs : List D} {v : V} (R : Rel K ι S H) (a : At K ι S.length H d v) (h : sqOf S d = some xs) : ∃ p vs, v = .ref p ∧ (SqL K.k H p vs ∨ SqT K.k H p vs) ∧ vs.length ≤ sizeLine ∧ AtL K ι S.length H xs vs := by
  cases a with
  | tup q z l => cases h; exact ⟨_, _, rfl, .inr q, z, l⟩
  | lst q z l => cases h; exact ⟨_, _, rfl, .inl q.sq, z, l⟩
  | scr q z l => cases h; exact ⟨_, _, rfl, .inl q.sq, z, l⟩
  | ref hn => obtain ⟨p, vs, e, q, z, l⟩ := lsOf_at R (.ref hn) h; exact ⟨p, vs, e, .inl q, z, l⟩
  | _ => cases h
end

section
variable {X : Cx} {pos : Pos} {a b c e : Expr} {es : List Expr} {f g h : G}

/-! ### constants, names -/
def cC (d : D) : G := fun _ S => some (d, S)
theorem tC_of {v : V} {d : D} (w : ∀ K ι N H, At K ι N H d v) : ∀ σ H Q, tE X.K (cC d) σ H Q → tC v σ H Q := by
  rintro σ H Q ⟨rs, ι, ρ, S, d', S', R, En, hf, k⟩
  cases hf
  exact k.same R (w _ _ _ _)
theorem de_int {i j} : DE X (.Constant (.int i) j pos) (cC (.int i)) := PE.imp pe_int (tC_of fun _ _ _ _ => .int i)
theorem de_bl {i j} : DE X (.Constant (.bool i) j pos) (cC (.bl i)) := PE.imp pe_bl (tC_of fun _ _ _ _ => .bl i)
theorem de_non {j} : DE X (.Constant .none j pos) (cC .non) := PE.imp pe_non (tC_of fun _ _ _ _ => .non)
theorem de_str {x j} : DE X (.Constant (.str x) j pos) (cC (.str x)) := PE.imp pe_str (tC_of fun _ _ _ _ => .str x)
theorem de_glob {x : Str} {v : V} {u : Value} {d : D} (hg : Gl X x) (hm : X.mg x = some u) (r : RelV v u) (w : ∀ K ι N H, At K ι N H d v) (hd : (x == ("__debug__" : Str)) = false := by decide) : DE X (.Name x pos) (cC d) := PE.imp (pe_glob hg hm r hd) (tC_of w)
def cVar (i : Nat) : G := fun ρ S => match ρ[i]? with
  | some (some d) => some (d, S)
  | _ => none
theorem de_var (i : Nat) {x : Str} (hN : X.N[i]? = some x := by rfl) (hv : Vis X.env.scope x := by first | exact Or.inl rfl | exact Or.inr (Or.inl rfl) | exact Or.inr (Or.inr rfl)) (hd : (x == ("__debug__" : Str)) = false := by decide)
    (hcd : (x == ("__classdict__" : Str)) = false := by decide) : DE X (.Name x pos) (cVar i) := by
  refine PE.imp (pe_var hN hv hd hcd) ?_
  rintro σ H Q ⟨rs, ι, ρ, S, d', S', R, En, hf, k⟩
  unfold cVar at hf
  split at hf
  · rename_i d e
    cases hf
    obtain ⟨v, q, w⟩ := En.2 i _ e
    exact ⟨v, q, k.same R w⟩
  · cases hf

/-! ### two parts -/
abbrev Op2 := Sto → D → D → Option D
def cBin (op : Op2) (f g : G) : G := fun ρ S => match f ρ S with
  | none => none
  | some (x, S1) => match g ρ S1 with
    | none => none
    | some (y, S2) => match op S2 x y with
      | none => none
      | some z => some (z, S2)
/-- a rule by values serves an operation on data -/
def Serves2 (K : PySem.W.Frag) (r : R2) (op : Op2) : Prop := ∀ (rs : Addr → Prop) (ι : Nat → Addr) (S : Sto) (H : Hp) (x y : D) (v u : V) (d : D) (Q : VK), Rel ⟨K, rs⟩ ι S H → At ⟨K, rs⟩ ι S.length H x v → At ⟨K, rs⟩ ι S.length H y u → op S x y = some d → Post ⟨K, rs⟩ ι S H S d Q → r v u H Q
theorem cBin_of {K : PySem.W.Frag} {r : R2} {op : Op2} (hr : Serves2 K r op) : ∀ σ H Q, tE K (cBin op f g) σ H Q → tOp r (tE K f) (tE K g) σ H Q := by
  rintro σ H Q ⟨rs, ι, ρ, S, d, S', R, En, hf, k⟩
  unfold cBin at hf
  split at hf
  · cases hf
  · rename_i x S1 e1
    split at hf
    · cases hf
    · rename_i y S2 e2
      split at hf
      · cases hf
      · rename_i z e3
        cases hf
        refine tE.go R En e1 fun ι1 H1 v E1 R1 En1 a1 => ?_
        refine tE.go R1 En1 e2 fun ι2 H2 u E2 R2 En2 a2 => ?_
        exact hr rs ι2 S' H2 x y v u d Q R2 (a1.mono R1 E2) a2 e3 (k.from (E1.trans E2))
theorem de_op {o : Operator} {r : R2} {op : Op2} (hr : OpR X (binaryOp o) r) (hs : Serves2 X.K r op) (ha : DE X a f) (hb : DE X b g) : DE X (.BinOp a o b pos) (cBin op f g) := PE.imp (pe_op hr ha hb) (cBin_of hs)
theorem de_cmp {o : CmpOp} {r : R2} {op : Op2} (hr : OpR X (compareOp o) r) (hs : Serves2 X.K r op) (ha : DE X a f) (hb : DE X b g) (hm : behindInMarks o b = false) : DE X (.Compare a [o] [b] pos) (cBin op f g) := PE.imp (pe_cmpR hr ha hb hm) (cBin_of hs)
theorem Serves2.or {K : PySem.W.Frag} {r r' : R2} {op op' : Op2} (h : Serves2 K r op) (h' : Serves2 K r' op') : Serves2 K (fun x y H Q => r x y H Q ∨ r' x y H Q) (fun S x y => (op S x y).or (op' S x y)) := by
  intro rs ι S H x y v u d Q R a1 a2 e k
  dsimp only at e
  cases e1 : op S x y with
  | some z => rw [e1] at e; cases e; exact .inl (h _ _ _ _ _ _ _ _ _ _ R a1 a2 e1 k)
  | none => rw [e1] at e; exact .inr (h' _ _ _ _ _ _ _ _ _ _ R a1 a2 e k)

/-! ### tests -/
def cTest (f : G) : Gb := fun ρ S => match f ρ S with
  | some (.bl c, S1) => some (c, S1)
  | _ => none
theorem cTest_of {K : PySem.W.Frag} : ∀ σ H Q, tT K (cTest f) σ H Q → tB (tE K f) σ H Q := by
  rintro σ H Q ⟨rs, ι, ρ, S, d, S', R, En, hf, k⟩
  unfold cTest at hf
  split at hf
  · rename_i c S1 e
    cases hf
    refine tE.go R En e fun ι1 H1 v E1 R1 En1 a1 => ?_
    cases a1
    exact ⟨_, rfl, k _ _ E1 R1⟩
  · cases hf
theorem dt_val (h : DE X e f) (he : ∀ whole, isTrue e X.env whole = (do let v ← whole; standAt e.pos; holding [v] (truthy v)) := by intro _; rfl) : DT X e (cTest f) := PT.imp (pt_val h he) cTest_of
theorem dt_cmp {o : CmpOp} {r : R2} {op : Op2} (hr : OpR X (compareOp o) r) (hs : Serves2 X.K r op) (ha : DE X a f) (hb : DE X b g) (hm : behindInMarks o b = false) : DT X (.Compare a [o] [b] pos) (cTest (cBin op f g)) := by
  refine PT.imp (pt_cmpR hr ha hb hm) ?_
  intro σ H Q q
  obtain ⟨rs, ι, ρ, S, d, S', R, En, hf, k⟩ := q
  unfold cTest at hf
  split at hf
  · rename_i c S1 e
    cases hf
    have : tE X.K (cBin op f g) σ H (fun x H' => ∃ k, x = .bl k ∧ Q k H') := tE.go R En e fun ι1 H1 v E1 R1 En1 a1 => by
      cases a1
      exact ⟨_, rfl, k _ _ E1 R1⟩
    exact cBin_of hs _ _ _ this
  · cases hf
abbrev DW (X : Cx) (e : Expr) (f : Gb) : Prop := PW X e (tT X.K f)
variable {ft gt : Gb} {rest : List Expr}
def cAndT (f g : Gb) : Gb := fun ρ S => match f ρ S with
  | some (true, S1) => g ρ S1
  | some (false, S1) => some (false, S1)
  | none => none
def cOrT (f g : Gb) : Gb := fun ρ S => match f ρ S with
  | some (true, S1) => some (true, S1)
  | some (false, S1) => g ρ S1
  | none => none
def cNotT (f : Gb) : Gb := fun ρ S => match f ρ S with
  | some (c, S1) => some (!c, S1)
  | none => none
theorem PostB.from {K : KR} {ι ι1 : Nat → Addr} {S S1 S' : Sto} {H H1 : Hp} {c : Bool} {Q : Bool → Hp → Prop} (k : PostB K ι S H S' c Q) (E : Ext ι S.length H ι1 S1.length H1) : PostB K ι1 S1 H1 S' c Q := fun ι' H' E' R' => k ι' H' (E.trans E') R'
theorem dw_and1 (ha : DT X a ft) : DW X (.BoolOp .And [a] pos) ft := pw_and1 ha
theorem dw_or1 (ha : DT X a ft) : DW X (.BoolOp .Or [a] pos) ft := pw_or1 ha
theorem dw_and (ha : DT X a ft) (hb : DW X (.BoolOp .And (b :: rest) pos) gt) : DW X (.BoolOp .And (a :: b :: rest) pos) (cAndT ft gt) := by
  refine PW.imp (pw_and ha hb) ?_
  rintro σ H Q ⟨rs, ι, ρ, S, d, S', R, En, hf, k⟩
  unfold cAndT at hf
  split at hf
  · rename_i S1 e
    refine tT.go R En e fun ι1 H1 E1 R1 En1 => ?_
    rw [if_pos rfl]
    exact ⟨rs, ι1, ρ, S1, d, S', R1, En1, hf, k.from E1⟩
  · rename_i S1 e
    cases hf
    refine tT.go R En e fun ι1 H1 E1 R1 En1 => ?_
    rw [if_neg (by decide)]
    exact k _ _ E1 R1
  · cases hf
theorem dw_or (ha : DT X a ft) (hb : DW X (.BoolOp .Or (b :: rest) pos) gt) : DW X (.BoolOp .Or (a :: b :: rest) pos) (cOrT ft gt) := by
  refine PW.imp (pw_or ha hb) ?_
  rintro σ H Q ⟨rs, ι, ρ, S, d, S', R, En, hf, k⟩
  unfold cOrT at hf
  split at hf
  · rename_i S1 e
    cases hf
    refine tT.go R En e fun ι1 H1 E1 R1 En1 => ?_
    rw [if_pos rfl]
    exact k _ _ E1 R1
  · rename_i S1 e
    refine tT.go R En e fun ι1 H1 E1 R1 En1 => ?_
    rw [if_neg (by decide)]
    exact ⟨rs, ι1, ρ, S1, d, S', R1, En1, hf, k.from E1⟩
  · cases hf
theorem dt_not (ha : DT X a ft) : DT X (.UnaryOp .Not a pos) (cNotT ft) := by
  refine PT.imp (pt_not ha) ?_
  rintro σ H Q ⟨rs, ι, ρ, S, d, S', R, En, hf, k⟩
  unfold cNotT at hf
  split at hf
  · rename_i c S1 e
    cases hf
    exact tT.go R En e fun ι1 H1 E1 R1 En1 => k _ _ E1 R1
  · cases hf
/-! .. as values -/
def cAnd (f g : G) : G := fun ρ S => match f ρ S with
  | some (.bl true, S1) => g ρ S1
  | some (.bl false, S1) => some (.bl false, S1)
  | _ => none
def cOr (f g : G) : G := fun ρ S => match f ρ S with
  | some (.bl true, S1) => some (.bl true, S1)
  | some (.bl false, S1) => g ρ S1
  | _ => none
def cNot (f : G) : G := fun ρ S => match f ρ S with
  | some (.bl c, S1) => some (.bl (!c), S1)
  | _ => none
theorem de_one {op} (h : DE X a f) : DE X (.BoolOp op [a] pos) f := pe_one h
theorem de_and (ha : DE X a f) (hb : DE X (.BoolOp .And (b :: rest) pos) g) : DE X (.BoolOp .And (a :: b :: rest) pos) (cAnd f g) := by
  refine PE.imp (pe_and ha hb) ?_
  rintro σ H Q ⟨rs, ι, ρ, S, d, S', R, En, hf, k⟩
  unfold cAnd at hf
  split at hf
  · rename_i S1 e
    refine tE.go R En e fun ι1 H1 v E1 R1 En1 a1 => ?_
    cases a1
    refine ⟨true, rfl, ?_⟩
    rw [if_pos rfl]
    exact ⟨rs, ι1, ρ, S1, d, S', R1, En1, hf, k.from E1⟩
  · rename_i S1 e
    cases hf
    refine tE.go R En e fun ι1 H1 v E1 R1 En1 a1 => ?_
    cases a1
    refine ⟨false, rfl, ?_⟩
    rw [if_neg (by decide)]
    exact k _ _ _ E1 R1 (.bl _)
  · cases hf
theorem de_or (ha : DE X a f) (hb : DE X (.BoolOp .Or (b :: rest) pos) g) : DE X (.BoolOp .Or (a :: b :: rest) pos) (cOr f g) := by
  refine PE.imp (pe_or ha hb) ?_
  rintro σ H Q ⟨rs, ι, ρ, S, d, S', R, En, hf, k⟩
  unfold cOr at hf
  split at hf
  · rename_i S1 e
    cases hf
    refine tE.go R En e fun ι1 H1 v E1 R1 En1 a1 => ?_
    cases a1
    refine ⟨true, rfl, ?_⟩
    rw [if_pos rfl]
    exact k _ _ _ E1 R1 (.bl _)
  · rename_i S1 e
    refine tE.go R En e fun ι1 H1 v E1 R1 En1 a1 => ?_
    cases a1
    refine ⟨false, rfl, ?_⟩
    rw [if_neg (by decide)]
    exact ⟨rs, ι1, ρ, S1, d, S', R1, En1, hf, k.from E1⟩
  · cases hf
theorem de_not (ha : DE X a f) : DE X (.UnaryOp .Not a pos) (cNot f) := by
  refine PE.imp (pe_not ha) ?_
  rintro σ H Q ⟨rs, ι, ρ, S, d, S', R, En, hf, k⟩
  unfold cNot at hf
  split at hf
  · rename_i c S1 e
    cases hf
    refine tE.go R En e fun ι1 H1 v E1 R1 En1 a1 => ?_
    cases a1
    exact ⟨_, rfl, k _ _ _ E1 R1 (.bl _)⟩
  · cases hf
def cIf (c : Gb) (f g : G) : G := fun ρ S => match c ρ S with
  | some (true, S1) => f ρ S1
  | some (false, S1) => g ρ S1
  | none => none
theorem de_ifExp (hc : DT X c ft) (ha : DE X a f) (hb : DE X b g) : DE X (.IfExp c a b pos) (cIf ft f g) := by
  refine PE.imp (pe_ifExp hc ha hb) ?_
  rintro σ H Q ⟨rs, ι, ρ, S, d, S', R, En, hf, k⟩
  unfold cIf at hf
  split at hf
  · rename_i S1 e
    refine tT.go R En e fun ι1 H1 E1 R1 En1 => ?_
    rw [if_pos rfl]
    exact ⟨rs, ι1, ρ, S1, d, S', R1, En1, hf, k.from E1⟩
  · rename_i S1 e
    refine tT.go R En e fun ι1 H1 E1 R1 En1 => ?_
    rw [if_neg (by decide)]
    exact ⟨rs, ι1, ρ, S1, d, S', R1, En1, hf, k.from E1⟩
  · cases hf

/-! ### argument lists, displays, calls -/
def cNil : Gs := fun _ S => some ([], S)
def cCons (f : G) (r : Gs) : Gs := fun ρ S => match f ρ S with
  | none => none
  | some (x, S1) => match r ρ S1 with
    | none => none
    | some (xs, S2) => some (x :: xs, S2)
variable {fs : Gs}
theorem da_nil : DA X [] cNil := by
  refine PA.imp pa_nil ?_
  rintro σ H Q ⟨rs, ι, ρ, S, d, S', R, En, hf, k⟩
  cases hf
  exact k _ _ _ Ext.refl R .nil
theorem cCons_of {K : PySem.W.Frag} : ∀ σ H Q, tL K (cCons f fs) σ H Q → tCons (tE K f) (tL K fs) σ H Q := by
  rintro σ H Q ⟨rs, ι, ρ, S, d, S', R, En, hf, k⟩
  unfold cCons at hf
  split at hf
  · cases hf
  · rename_i x S1 e1
    split at hf
    · cases hf
    · rename_i xs S2 e2
      cases hf
      refine tE.go R En e1 fun ι1 H1 v E1 R1 En1 a1 => ?_
      exact tL.go R1 En1 e2 fun ι2 H2 vs E2 R2 En2 a2 => k _ _ _ (E1.trans E2) R2 (.cons (a1.mono R1 E2) a2)
theorem da_cons (ha : DE X e f) (hr : DA X es fs) (hs : starEach (e :: es) X.env = (false, eval e X.env) :: starEach es X.env := by rfl) : DA X (e :: es) (cCons f fs) := PA.imp (pa_cons ha hr hs) cCons_of
/-- (a, b, ..) -/
def cTup (r : Gs) : G := fun ρ S => match r ρ S with
  | none => none
  | some (xs, S1) => if xs.length ≤ sizeLine then some (.tup xs, S1) else none
/-- [a, b, ..], only read behind it -/
def cLst (r : Gs) : G := fun ρ S => match r ρ S with
  | none => none
  | some (xs, S1) => if xs.length ≤ sizeLine then some (.lst xs, S1) else none
/-- [a, b, ..] that will change -/
def cNew (r : Gs) : G := fun ρ S => match r ρ S with
  | none => none
  | some (xs, S1) => if xs.length ≤ sizeLine then some (.ref S1.length, S1 ++ [.lst xs]) else none
theorem de_tup {n} (h : DA X es fs) : DE X (.Tuple es n pos) (cTup fs) := by
  refine PE.imp (pe_tup h) ?_
  rintro σ H Q ⟨rs, ι, ρ, S, d, S', R, En, hf, k⟩
  unfold cTup at hf
  split at hf
  · cases hf
  · rename_i xs S1 e1
    split at hf
    · rename_i z
      cases hf
      refine tL.go R En e1 fun ι1 H1 vs E1 R1 En1 a1 => ?_
      have z' : vs.length ≤ sizeLine := by rw [← a1.length]; exact z
      exact ⟨z', fun p hp => (k.from E1).tup R1 hp z' a1⟩
    · cases hf
theorem de_lst (h : DA X es fs) : DE X (.List es pos) (cLst fs) := by
  refine PE.imp (pe_lst h) ?_
  rintro σ H Q ⟨rs, ι, ρ, S, d, S', R, En, hf, k⟩
  unfold cLst at hf
  split at hf
  · cases hf
  · rename_i xs S1 e1
    split at hf
    · rename_i z
      cases hf
      refine tL.go R En e1 fun ι1 H1 vs E1 R1 En1 a1 => ?_
      have z' : vs.length ≤ sizeLine := by rw [← a1.length]; exact z
      exact ⟨z', fun p hp => (k.from E1).lst R1 hp z' a1⟩
    · cases hf
theorem de_new (h : DA X es fs) : DE X (.List es pos) (cNew fs) := by
  refine PE.imp (pe_lst h) ?_
  rintro σ H Q ⟨rs, ι, ρ, S, d, S', R, En, hf, k⟩
  unfold cNew at hf
  split at hf
  · cases hf
  · rename_i xs S1 e1
    split at hf
    · rename_i z
      cases hf
      refine tL.go R En e1 fun ι1 H1 vs E1 R1 En1 a1 => ?_
      have z' : vs.length ≤ sizeLine := by rw [← a1.length]; exact z
      exact ⟨z', fun p hp => (k.from E1).newL R1 hp z' a1⟩
    · cases hf
/-- f(..) of the text's own; dds: the defaults that fill up -/
def cCall (F : Fn) (dds : List D) (r : Gs) : G := fun ρ S => match r ρ S with
  | none => none
  | some (xs, S1) => F (xs ++ dds) S1
theorem cCall_of {K : PySem.W.Frag} {F : Fn} {dds : List D} {dvs : List V} (w : ∀ K ι N H, AtL K ι N H dds dvs) : ∀ σ H Q, tE K (cCall F dds fs) σ H Q → tCallG K F dvs (tL K fs) σ H Q := by
  rintro σ H Q ⟨rs, ι, ρ, S, d, S', R, En, hf, k⟩
  unfold cCall at hf
  split at hf
  · cases hf
  · rename_i xs S1 e1
    refine tL.go R En e1 fun ι1 H1 vs E1 R1 En1 a1 => ?_
    exact ⟨rs, ι1, S1, xs ++ dds, d, S', R1, a1.append (w _ _ _ _), hf, k.from E1⟩
theorem de_call {k : Nat} {fa : Addr} {fd : FuncData} {ps : List Str} {F : Fn} {x : Str} {p : Pos} (g : FG X.prog X.w X.K X.mg X.base k fa fd ps F) (hr : Room k X.A) (hgd : X.A.guards = some []) (hg : Gl X x) (hm : X.mg x = some (.ref fa)) (hk : PySem.W.keepIn X.K (.ref fa) = true) (hb : Binds X.K fd ps [])
    (ha : DA X (e :: es) fs) (hdb : (x == ("__debug__" : Str)) = false := by decide) (he : starEach (e :: es) X.env = (false, eval e X.env) :: starEach es X.env := by rfl)
    (hpl : (backTo pos (starEach es X.env)).any (·.1) = false := by rfl) :
    DE X (.Call (.Name x p) (e :: es) [] pos) (cCall F [] fs) := PE.imp (pe_callG g hr hgd hg hm hk hb .nil ha hdb he hpl) (cCall_of fun _ _ _ _ => .nil)
theorem de_call0 {k : Nat} {fa : Addr} {fd : FuncData} {ps : List Str} {F : Fn} {x : Str} {p : Pos} (g : FG X.prog X.w X.K X.mg X.base k fa fd ps F) (hr : Room k X.A) (hgd : X.A.guards = some []) (hg : Gl X x) (hm : X.mg x = some (.ref fa)) (hk : PySem.W.keepIn X.K (.ref fa) = true) (hb : Binds X.K fd ps [])
    (hdb : (x == ("__debug__" : Str)) = false := by decide) :
    DE X (.Call (.Name x p) [] [] pos) (cCall F [] cNil) := by
  refine PE.imp (pe_callG0 g hr hgd hg hm hk hb .nil hdb) ?_
  intro σ H Q q
  have := cCall_of (K := X.K) (F := F) (dds := []) (dvs := []) (fs := cNil) (fun _ _ _ _ => .nil) σ H Q q
  obtain ⟨rs, ι, ρ, S, d, S', R, En, hf, k⟩ := this
  cases hf
  exact k _ _ _ Ext.refl R .nil
/-- a built-in's call: what it gives of data, the store as it was -/
abbrev OpN := Sto → List D → Option D
def cOp (op : OpN) (r : Gs) : G := fun ρ S => match r ρ S with
  | none => none
  | some (xs, S1) => match op S1 xs with
    | none => none
    | some z => some (z, S1)
def ServesN (K : PySem.W.Frag) (r : List V → Hp → VK → Prop) (op : OpN) : Prop := ∀ (rs : Addr → Prop) (ι : Nat → Addr) (S : Sto) (H : Hp) (xs : List D) (vs : List V) (d : D) (Q : VK), Rel ⟨K, rs⟩ ι S H → AtL ⟨K, rs⟩ ι S.length H xs vs → op S xs = some d → Post ⟨K, rs⟩ ι S H S d Q → r vs H Q
theorem cOp_of {K : PySem.W.Frag} {r : List V → Hp → VK → Prop} {op : OpN} (hr : ServesN K r op) : ∀ σ H Q, tE K (cOp op fs) σ H Q → tCB r (tL K fs) σ H Q := by
  rintro σ H Q ⟨rs, ι, ρ, S, d, S', R, En, hf, k⟩
  unfold cOp at hf
  split at hf
  · cases hf
  · rename_i xs S1 e1
    split at hf
    · cases hf
    · rename_i z e2
      cases hf
      refine tL.go R En e1 fun ι1 H1 vs E1 R1 En1 a1 => ?_
      exact hr _ _ _ _ _ _ _ _ R1 a1 e2 (k.from E1)
theorem de_callB {id : String} {r : List V → Hp → VK → Prop} {op : OpN} {x : Str} {p : Pos} (hc : CallR X (.builtin id) r) (hs : ServesN X.K r op) (hg : Gl X x) (hm : X.mg x = none) (hv : bootBuiltins x = some (.builtin id)) (ha : DA X (e :: es) fs)
    (hn : x ≠ "__name__" := by decide) (hdb : (x == ("__debug__" : Str)) = false := by decide)
    (he : starEach (e :: es) X.env = (false, eval e X.env) :: starEach es X.env := by rfl) (hpl : (backTo pos (starEach es X.env)).any (·.1) = false := by rfl) : DE X (.Call (.Name x p) (e :: es) [] pos) (cOp op fs) :=
  PE.imp (pe_callB hc hg hm hv ha hn hdb he hpl) (cOp_of hs)
theorem de_callTy {T : String} {r : List V → Hp → VK → Prop} {op : OpN} {x : Str} {p : Pos} (hc : CallR X (.type T) r) (hs : ServesN X.K r op) (hg : Gl X x) (hm : X.mg x = none) (hv : bootBuiltins x = some (.type T)) (ha : DA X (e :: es) fs)
    (hn : x ≠ "__name__" := by decide) (hdb : (x == ("__debug__" : Str)) = false := by decide)
    (he : starEach (e :: es) X.env = (false, eval e X.env) :: starEach es X.env := by rfl) (hpl : (backTo pos (starEach es X.env)).any (·.1) = false := by rfl) : DE X (.Call (.Name x p) (e :: es) [] pos) (cOp op fs) :=
  PE.imp (pe_callTy hc hg hm hv ha hn hdb he hpl) (cOp_of hs)
end
end FS
set_option Elab.async false
set_option linter.all false
set_option maxRecDepth 100000
set_option maxHeartbeats 4000000
namespace FS
open PySem PySem.Spec PyProof.Rows L2

/-! ### data as PyData -/
mutual
def pyD : D → Option PyData
  | .non => some .none
  | .bl b => some (.bool b)
  | .int i => some (.int i)
  | .str x => some (.str x)
  | .tup xs => (pyDs xs).map .tuple
  | .lst xs => (pyDs xs).map .list
  | .scr xs => (pyDs xs).map .list
  | .ref _ => none
def pyDs : List D → Option (List PyData)
  | [] => some []
  | x :: xs => match pyD x, pyDs xs with
    | some y, some ys => some (y :: ys)
    | _, _ => none
end
section
variable {K : KR} {ι : Nat → Addr} {N : Nat} {H : Hp}
mutual
theorem pyD_at : ∀ {d : D} {v : V} {p : PyData}, At K ι N H d v → pyD d = some p → Dp K.k H v p
  | _, _, _, .non, e => by simp only [pyD] at e; cases e; exact .non
  | _, _, _, .bl b, e => by simp only [pyD] at e; cases e; exact .bl b
  | _, _, _, .int i, e => by simp only [pyD] at e; cases e; exact .int i
  | _, _, _, .str x, e => by simp only [pyD] at e; cases e; exact .str x
  | _, _, _, .tup h z l, e => by
    simp only [pyD, Option.map_eq_some_iff] at e
    obtain ⟨ps, e1, e2⟩ := e
    subst e2
    exact .tup h (pyDs_at l e1)
  | _, _, _, .lst h z l, e => by
    simp only [pyD, Option.map_eq_some_iff] at e
    obtain ⟨ps, e1, e2⟩ := e
    subst e2
    exact .lst h.sq (pyDs_at l e1)
  | _, _, _, .scr h z l, e => by
    simp only [pyD, Option.map_eq_some_iff] at e
    obtain ⟨ps, e1, e2⟩ := e
    subst e2
    exact .lst h.sq (pyDs_at l e1)
  | _, _, _, .ref h, e => by simp only [pyD] at e; cases e
theorem pyDs_at : ∀ {ds : List D} {vs : List V} {ps : List PyData}, AtL K ι N H ds vs → pyDs ds = some ps → DpAll K.k H vs ps
  | _, _, _, .nil, e => by simp only [pyDs] at e; cases e; exact .nil
  | _, _, _, .cons h t, e => by
    simp only [pyDs] at e
    split at e
    · rename_i y ys e1 e2
      cases e
      exact .cons (pyD_at h e1) (pyDs_at t e2)
    · cases e
end
end
/-- a list that changes, looked at as it stands -/
def seen (S : Sto) : D → D
  | .ref n => match S[n]? with
    | some (.lst xs) => .lst xs
    | _ => .ref n
  | d => d
theorem seen_at {K : KR} {ι : Nat → Addr} {S : Sto} {H : Hp} {d : D} {v : V} {p : PyData} (R : Rel K ι S H) (a : At K ι S.length H d v) (e : pyD (seen S d) = some p) : Dp K.k H v p := by
  cases a with
  | @ref n h =>
    simp only [seen] at e
    split at e
    · rename_i xs hx
      obtain ⟨vs, q, l, z⟩ := R.obj n _ hx
      simp only [pyD, Option.map_eq_some_iff] at e
      obtain ⟨ps, e1, e2⟩ := e
      subst e2
      exact .lst (.of q) (pyDs_at l e1)
    · simp only [pyD] at e; cases e
  | non => exact pyD_at (ι := ι) (N := S.length) .non e
  | bl b => exact pyD_at (ι := ι) (N := S.length) (.bl b) e
  | int i => exact pyD_at (ι := ι) (N := S.length) (.int i) e
  | str x => exact pyD_at (ι := ι) (N := S.length) (.str x) e
  | tup h z l => exact pyD_at (.tup h z l) e
  | lst h z l => exact pyD_at (.lst h z l) e
  | scr h z l => exact pyD_at (.scr h z l) e

/-! ### operators -/
section
variable {X : Cx}
def intO (g : Int → Int → Option D) : Op2 := fun _ x y => match x, y with
  | .int i, .int j => g i j
  | _, _ => none
theorem serves_rI {C : Int → Int → Prop} [∀ i j, Decidable (C i j)] {g : Int → Int → V} {gd : Int → Int → D} (w : ∀ K ι N H i j, At K ι N H (gd i j) (g i j)) : Serves2 X.K (rI C g) (intO fun i j => if C i j then some (gd i j) else none) := by
  intro rs ι S H x y v u d Q R a1 a2 e k
  unfold intO at e
  split at e
  · dsimp only at e
    split at e
    · rename_i hc
      cases a1; cases a2; cases e
      exact ⟨_, _, rfl, rfl, hc, k.same R (w _ _ _ _ _ _)⟩
    · cases e
  · cases e
theorem serves_rI0 {g : Int → Int → V} {gd : Int → Int → D} (w : ∀ K ι N H i j, At K ι N H (gd i j) (g i j)) : Serves2 X.K (rI0 g) (intO fun i j => some (gd i j)) := by
  intro rs ι S H x y v u d Q R a1 a2 e k
  unfold intO at e
  split at e
  · cases a1; cases a2; cases e
    exact ⟨_, _, rfl, rfl, k.same R (w _ _ _ _ _ _)⟩
  · cases e
/-- sums -/
def addO : Op2 := fun S x y => match x, y with
  | .int i, .int j => some (.int (i + j))
  | .bl a, .int j => some (.int ((if a = true then (1 : Int) else 0) + j))
  | .str a, .str b => if a.length + b.length ≤ sizeLine then some (.str (a ++ b)) else none
  | .tup a, .tup b => if a.length + b.length ≤ sizeLine then some (.tup (a ++ b)) else none
  | x, y => match lmOf S x, lmOf S y with
    | some a, some b => if a.length + b.length ≤ sizeLine then some (.lst (a ++ b)) else none
    | _, _ => none
def rAddBI : R2 := fun x y H Q => ∃ a j, x = .bl a ∧ y = .int j ∧ Q (.int ((if a = true then (1 : Int) else 0) + j)) H
theorem op_addBI : OpR X (binaryOp .Add) rAddBI := by
  rintro pins s σ H x y v u Q I rx ry ⟨a, j, rfl, rfl, q⟩
  cases rx
  obtain ⟨t, rfl⟩ := ry
  exact PySem.IntBool.add_bool_int ⟨.int _, H, I.tok _, ⟨_, rfl⟩, q⟩
def rSubBI : R2 := fun x y H Q => ∃ a j, x = .bl a ∧ y = .int j ∧ Q (.int ((if a = true then (1 : Int) else 0) - j)) H
theorem op_subBI : OpR X (binaryOp .Sub) rSubBI := by
  rintro pins s σ H x y v u Q I rx ry ⟨a, j, rfl, rfl, q⟩
  cases rx
  obtain ⟨t, rfl⟩ := ry
  exact PySem.IntBool.sub_bool_int ⟨.int _, H, I.tok _, ⟨_, rfl⟩, q⟩
def rSumOf (K : PySem.W.Frag) : R2 := fun x y H Q => rI0 (fun i j => .int (i + j)) x y H Q ∨ (∃ i j, x = .str i ∧ y = .str j ∧ i.length + j.length ≤ sizeLine ∧ Q (.str (i ++ j)) H) ∨ rCatA K x y H Q ∨ rCat x y H Q ∨ rAddBI x y H Q
theorem op_sumOf : OpR X (binaryOp .Add) (rSumOf X.K) := op_add.or (op_add_str.or (op_catA.or (op_cat.or op_addBI)))
theorem addO_ok : Serves2 X.K (rSumOf X.K) addO := by
  intro rs ι S H x y v u d Q R a1 a2 e k
  unfold addO at e
  split at e
  · cases a1; cases a2; cases e
    exact .inl ⟨_, _, rfl, rfl, k.same R (.int _)⟩
  · cases a1; cases a2; cases e
    exact .inr (.inr (.inr (.inr ⟨_, _, rfl, rfl, k.same R (.int _)⟩)))
  · split at e
    · rename_i hz
      cases a1; cases a2; cases e
      exact .inr (.inl ⟨_, _, rfl, rfl, hz, k.same R (.str _)⟩)
    · cases e
  · split at e
    · rename_i hz
      cases a1 with
      | tup h1 z1 l1 =>
        cases a2 with
        | tup h2 z2 l2 =>
          cases e
          rename_i a b p1 v1 p2 v2
          have n1 := l1.length
          have n2 := l2.length
          have la : (v1 ++ v2).length ≤ sizeLine := by rw [List.length_append]; omega
          refine .inr (.inr (.inl ⟨_, _, _, _, rfl, rfl, h1, h2, by omega, fun ea => ?_, fun _ eb => ?_, fun _ _ p hp => ?_⟩))
          · subst ea
            cases l1
            exact k.same R (.tup h2 z2 l2)
          · subst eb
            cases l2
            rw [List.append_nil] at k
            exact k.same R (.tup h1 z1 l1)
          · exact k.tup R hp la (l1.append l2)
    · cases e
  · split at e
    · rename_i a b e1 e2
      split at e
      · rename_i hz
        cases e
        obtain ⟨p1, v1, rfl, h1, z1, l1⟩ := lmOf_at R a1 e1
        obtain ⟨p2, v2, rfl, h2, z2, l2⟩ := lmOf_at R a2 e2
        have n1 := l1.length
        have n2 := l2.length
        refine .inr (.inr (.inr (.inl ⟨_, _, _, _, rfl, rfl, h1, h2, by omega, fun p hp => ?_⟩)))
        exact k.lst R hp (by rw [List.length_append]; omega) (l1.append l2)
      · cases e
    · cases e
theorem de_add {a b : Expr} {f g : G} {pos : Pos} (ha : DE X a f) (hb : DE X b g) : DE X (.BinOp a .Add b pos) (cBin addO f g) := de_op op_sumOf addO_ok ha hb
def subO : Op2 := fun S x y => match x, y with
  | .int i, .int j => some (.int (i - j))
  | .bl a, .int j => some (.int ((if a = true then (1 : Int) else 0) - j))
  | _, _ => none
theorem subO_ok : Serves2 X.K (fun x y H Q => rI0 (fun i j => .int (i - j)) x y H Q ∨ rSubBI x y H Q) subO := by
  intro rs ι S H x y v u d Q R a1 a2 e k
  unfold subO at e
  split at e
  · cases a1; cases a2; cases e
    exact .inl ⟨_, _, rfl, rfl, k.same R (.int _)⟩
  · cases a1; cases a2; cases e
    exact .inr ⟨_, _, rfl, rfl, k.same R (.int _)⟩
  · cases e
theorem de_sub {a b : Expr} {f g : G} {pos : Pos} (ha : DE X a f) (hb : DE X b g) : DE X (.BinOp a .Sub b pos) (cBin subO f g) := de_op (op_sub.or op_subBI) subO_ok ha hb
instance : ∀ i j, Decidable (CMul i j) := fun i j => by unfold CMul; infer_instance
instance : ∀ i j, Decidable (CPow i j) := fun i j => by unfold CPow; infer_instance
instance : ∀ i j, Decidable (CDiv i j) := fun i j => by unfold CDiv; infer_instance
def mulO : Op2 := intO fun i j => if CMul i j then some (.int (i * j)) else none
theorem de_mul {a b : Expr} {f g : G} {pos : Pos} (ha : DE X a f) (hb : DE X b g) : DE X (.BinOp a .Mult b pos) (cBin mulO f g) := de_op op_mul (serves_rI fun _ _ _ _ _ _ => .int _) ha hb
def divO : Op2 := intO fun i j => if CDiv i j then some (.int (i / j)) else none
theorem de_div {a b : Expr} {f g : G} {pos : Pos} (ha : DE X a f) (hb : DE X b g) : DE X (.BinOp a .FloorDiv b pos) (cBin divO f g) := de_op op_fdiv (serves_rI fun _ _ _ _ _ _ => .int _) ha hb
def modO : Op2 := intO fun i j => if 0 < j then some (.int (i % j)) else none
theorem de_mod {a b : Expr} {f g : G} {pos : Pos} (ha : DE X a f) (hb : DE X b g) : DE X (.BinOp a .Mod b pos) (cBin modO f g) := de_op op_mod (serves_rI fun _ _ _ _ _ _ => .int _) ha hb
def powO : Op2 := intO fun i j => if CPow i j then some (.int (i ^ j.toNat)) else none
theorem de_pow {a b : Expr} {f g : G} {pos : Pos} (ha : DE X a f) (hb : DE X b g) : DE X (.BinOp a .Pow b pos) (cBin powO f g) := de_op op_pow (serves_rI fun _ _ _ _ _ _ => .int _) ha hb
/-- a tuple said several times -/
def repO : Op2 := fun _ x y => match x, y with
  | .tup xs, .int k => if xs ≠ [] ∧ 2 ≤ k ∧ k ≤ 1000 ∧ xs.length ≤ 1000 then some (.tup (List.replicate k.toNat xs).flatten) else none
  | _, _ => none
theorem AtL.rep {K : KR} {ι : Nat → Addr} {N : Nat} {H : Hp} {ds : List D} {vs : List V} (a : AtL K ι N H ds vs) : ∀ k : Nat, AtL K ι N H (List.replicate k ds).flatten (List.replicate k vs).flatten
  | 0 => .nil
  | k + 1 => by
    rw [List.replicate_succ, List.replicate_succ, List.flatten_cons, List.flatten_cons]
    exact a.append (a.rep k)
theorem rep_len {α : Type} (xs : List α) : ∀ k : Nat, (List.replicate k xs).flatten.length = k * xs.length
  | 0 => by simp
  | k + 1 => by rw [List.replicate_succ, List.flatten_cons, List.length_append, rep_len xs k, Nat.succ_mul, Nat.add_comm]
theorem repO_ok : Serves2 X.K (rRepT X.K) repO := by
  intro rs ι S H x y v u d Q R a1 a2 e k
  unfold repO at e
  split at e
  · split at e
    · rename_i hc
      obtain ⟨h0, h1, h2, h3⟩ := hc
      cases a1 with
      | tup q z l =>
        cases a2
        cases e
        rename_i kk p vs
        have n1 := l.length
        have hz : (List.replicate kk.toNat vs).flatten.length ≤ sizeLine := by
          rw [rep_len, sizeLine_eq]
          have : kk.toNat * vs.length ≤ 1000 * 1000 := Nat.mul_le_mul (by omega) (by omega)
          omega
        refine ⟨_, _, _, rfl, rfl, q, fun z0 => ?_, h1, h2, by omega, fun p hp => k.tup R hp hz (l.rep _)⟩
        subst z0
        cases l
        exact h0 rfl
    · cases e
  · cases e
theorem de_rep {a b : Expr} {f g : G} {pos : Pos} (ha : DE X a f) (hb : DE X b g) : DE X (.BinOp a .Mult b pos) (cBin repO f g) := de_op op_repT repO_ok ha hb

/-! ### comparisons -/
def ltO : Op2 := intO fun i j => some (.bl (decide (i < j)))
def leO : Op2 := intO fun i j => some (.bl (decide (i ≤ j)))
def gtO : Op2 := intO fun i j => some (.bl (decide (j < i)))
def geO : Op2 := intO fun i j => some (.bl (decide (j ≤ i)))
variable {a b c : Expr} {f g h : G} {pos : Pos}
theorem de_lt (ha : DE X a f) (hb : DE X b g) : DE X (.Compare a [.Lt] [b] pos) (cBin ltO f g) := de_cmp op_lt (serves_rI0 fun _ _ _ _ _ _ => .bl _) ha hb (nomark _)
theorem de_le (ha : DE X a f) (hb : DE X b g) : DE X (.Compare a [.LtE] [b] pos) (cBin leO f g) := de_cmp op_le (serves_rI0 fun _ _ _ _ _ _ => .bl _) ha hb (nomark _)
theorem de_gt (ha : DE X a f) (hb : DE X b g) : DE X (.Compare a [.Gt] [b] pos) (cBin gtO f g) := de_cmp op_gt (serves_rI0 fun _ _ _ _ _ _ => .bl _) ha hb (nomark _)
theorem de_ge (ha : DE X a f) (hb : DE X b g) : DE X (.Compare a [.GtE] [b] pos) (cBin geO f g) := de_cmp op_ge (serves_rI0 fun _ _ _ _ _ _ => .bl _) ha hb (nomark _)
/-- equal, as data -/
def eqF (neg : Bool) (b : Bool) : Option D := some (.bl (if neg then !b else b))
def eqO (neg : Bool) : Op2 := fun S x y => match x, y with
  | .str a, .str b => eqF neg (a == b)
  | .int a, .int b => eqF neg (decide (a = b))
  | .bl a, .bl b => eqF neg (a == b)
  | .non, .non => eqF neg true
  | .int _, .non => eqF neg false
  | .str _, .non => eqF neg false
  | .int _, .str _ => eqF neg false
  | .str _, .int _ => eqF neg false
  | x, y => match pyD (seen S x), pyD (seen S y) with
    | some p, some q => if SeqAt.shaped p = true ∧ SeqAt.shaped q = true then some (.bl (if neg then !PyData.eqv p q else PyData.eqv p q)) else none
    | _, _ => none
def rEqA (K : PySem.W.Frag) : R2 := fun x y H Q => rEq x y H Q ∨ rEqD K x y H Q
def rNeA (K : PySem.W.Frag) : R2 := fun x y H Q => rNe x y H Q ∨ rNeD K x y H Q
theorem eqO_ok : Serves2 X.K (rEqA X.K) (eqO false) := by
  intro rs ι S H x y v u d Q R a1 a2 e k
  unfold eqO at e
  split at e
  iterate 8
    · unfold eqF at e
      cases e
      cases a1
      cases a2
      refine .inl ⟨rfl, ?_⟩
      refine (congrFun (congrArg Q (congrArg V.bl ?_)) H).mpr (k.same R (.bl _))
      (first | (simp; done) | (simp only [if_false, if_true, Bool.false_eq_true]; rw [Bool.eq_iff_iff]; simp))
  · split at e
    · rename_i p q e1 e2
      split at e
      · rename_i hs
        cases e
        exact .inr ⟨p, q, seen_at R a1 e1, seen_at R a2 e2, hs.1, hs.2, k.same R (.bl _)⟩
      · cases e
    · cases e
theorem neO_ok : Serves2 X.K (rNeA X.K) (eqO true) := by
  intro rs ι S H x y v u d Q R a1 a2 e k
  unfold eqO at e
  split at e
  iterate 8
    · unfold eqF at e
      cases e
      cases a1
      cases a2
      refine .inl ⟨rfl, ?_⟩
      refine (congrFun (congrArg Q (congrArg V.bl ?_)) H).mpr (k.same R (.bl _))
      (first | (simp; done) | (simp only [if_false, if_true, Bool.false_eq_true]; rw [Bool.eq_iff_iff]; simp))
  · split at e
    · rename_i p q e1 e2
      split at e
      · rename_i hs
        cases e
        exact .inr ⟨p, q, seen_at R a1 e1, seen_at R a2 e2, hs.1, hs.2, k.same R (.bl _)⟩
      · cases e
    · cases e
theorem de_eq {k : Nat} (hr : Room k X.A) (ha : DE X a f) (hb : DE X b g) : DE X (.Compare a [.Eq] [b] pos) (cBin (eqO false) f g) := de_cmp (op_eq.or (op_eqD hr.units)) eqO_ok ha hb (nomark _)
theorem de_ne {k : Nat} (hr : Room k X.A) (ha : DE X a f) (hb : DE X b g) : DE X (.Compare a [.NotEq] [b] pos) (cBin (eqO true) f g) := de_cmp (op_ne.or (op_neD hr.units)) neO_ok ha hb (nomark _)
/-- x is None -/
def isO (neg : Bool) : Op2 := fun _ x y => match x, y with
  | .non, .non => some (.bl (!neg))
  | .bl _, .non => some (.bl neg)
  | .int _, .non => some (.bl neg)
  | .str _, .non => some (.bl neg)
  | .tup _, .non => some (.bl neg)
  | .lst _, .non => some (.bl neg)
  | .ref _, .non => some (.bl neg)
  | _, _ => none
theorem isO_ok : Serves2 X.K (fun x y H Q => y = .non ∧ Q (.bl (decide (x = .non))) H) (isO false) := by
  intro rs ι S H x y v u d Q R a1 a2 e k
  unfold isO at e
  split at e <;> first
    | (cases a1; cases a2; cases e; exact ⟨rfl, k.same R (.bl _)⟩)
    | cases e
theorem isnO_ok : Serves2 X.K (fun x y H Q => y = .non ∧ Q (.bl (!decide (x = .non))) H) (isO true) := by
  intro rs ι S H x y v u d Q R a1 a2 e k
  unfold isO at e
  split at e <;> first
    | (cases a1; cases a2; cases e; exact ⟨rfl, k.same R (.bl _)⟩)
    | cases e
theorem de_isN (ha : DE X a f) (hb : DE X b g) : DE X (.Compare a [.Is] [b] pos) (cBin (isO false) f g) := de_cmp op_isN isO_ok ha hb (nomark _)
theorem de_notN (ha : DE X a f) (hb : DE X b g) : DE X (.Compare a [.IsNot] [b] pos) (cBin (isO true) f g) := de_cmp op_notN isnO_ok ha hb (nomark _)
/-- among flat items -/
def flatD : D → Option V
  | .non => some .non
  | .bl b => some (.bl b)
  | .int i => some (.int i)
  | .str x => some (.str x)
  | _ => none
def flatDs : List D → Option (List V)
  | [] => some []
  | x :: xs => match flatD x, flatDs xs with
    | some y, some ys => some (y :: ys)
    | _, _ => none
theorem flatD_at {K : KR} {ι : Nat → Addr} {N : Nat} {H : Hp} {d : D} {v w : V} (a : At K ι N H d v) (e : flatD d = some w) : v = w ∧ flatV v = true := by
  cases a <;> first
    | (simp only [flatD] at e; cases e; exact ⟨rfl, rfl⟩)
    | (simp only [flatD] at e; cases e)
theorem flatDs_at {K : KR} {ι : Nat → Addr} {N : Nat} {H : Hp} : ∀ {ds : List D} {vs ws : List V}, AtL K ι N H ds vs → flatDs ds = some ws → vs = ws ∧ vs.all flatV = true
  | _, _, _, .nil, e => by simp only [flatDs] at e; cases e; exact ⟨rfl, rfl⟩
  | _, _, _, .cons h t, e => by
    simp only [flatDs] at e
    split at e
    · rename_i y ys e1 e2
      cases e
      obtain ⟨q1, q2⟩ := flatD_at h e1
      obtain ⟨q3, q4⟩ := flatDs_at t e2
      exact ⟨by rw [q1, q3], by rw [List.all_cons, q2, q4]; rfl⟩
    · cases e
/-- the one text within the other -/
def inS (i j : Str) : Bool := !(Builtin.Str.occurrences j i 0 j.length 1).isEmpty
def inO (neg : Bool) : Op2 := fun S x y => match x, y with
  | .str i, .str j => some (.bl (if neg then !inS i j else inS i j))
  | x, y => match sqOf S y with
    | some ys => match flatD x, flatDs ys with
      | some v, some vs => some (.bl (if neg then !inV v vs else inV v vs))
      | _, _ => none
    | none => none
def rInB (K : PySem.W.Frag) (neg : Bool) : R2 := fun x y H Q => rIn K neg x y H Q ∨ ∃ i j, x = .str i ∧ y = .str j ∧ Q (.bl (if neg then !(!(Builtin.Str.occurrences j i 0 j.length 1).isEmpty) else (!(Builtin.Str.occurrences j i 0 j.length 1).isEmpty))) H
theorem inO_ok (neg : Bool) : Serves2 X.K (rInB X.K neg) (inO neg) := by
  intro rs ι S H x y v u d Q R a1 a2 e k
  unfold inO at e
  split at e
  · cases e
    cases a1
    cases a2
    exact .inr ⟨_, _, rfl, rfl, k.same R (.bl _)⟩
  · split at e
    · rename_i ys e0
      split at e
      · rename_i w ws e1 e2
        cases e
        obtain ⟨p, vs, rfl, hq, z, l⟩ := sqOf_at R a2 e0
        obtain ⟨rfl, q1⟩ := flatD_at a1 e1
        obtain ⟨rfl, q2⟩ := flatDs_at l e2
        exact .inl ⟨p, _, rfl, hq, q1, q2, k.same R (.bl _)⟩
      · cases e
    · cases e
theorem op_inB : OpR X (compareOp .In) (rInB X.K false) := op_in_seq.or op_in_str
theorem op_ninB : OpR X (compareOp .NotIn) (rInB X.K true) := op_notIn_seq.or op_notin_str
theorem de_in (ha : DE X a f) (hb : DE X b g) (hm : behindInMarks .In b = false := by rfl) : DE X (.Compare a [.In] [b] pos) (cBin (inO false) f g) := de_cmp op_inB (inO_ok false) ha hb hm
theorem de_notIn (ha : DE X a f) (hb : DE X b g) (hm : behindInMarks .NotIn b = false := by rfl) : DE X (.Compare a [.NotIn] [b] pos) (cBin (inO true) f g) := de_cmp op_ninB (inO_ok true) ha hb hm
theorem dt_lt (ha : DE X a f) (hb : DE X b g) : DT X (.Compare a [.Lt] [b] pos) (cTest (cBin ltO f g)) := dt_cmp op_lt (serves_rI0 fun _ _ _ _ _ _ => .bl _) ha hb (nomark _)
theorem dt_le (ha : DE X a f) (hb : DE X b g) : DT X (.Compare a [.LtE] [b] pos) (cTest (cBin leO f g)) := dt_cmp op_le (serves_rI0 fun _ _ _ _ _ _ => .bl _) ha hb (nomark _)
theorem dt_gt (ha : DE X a f) (hb : DE X b g) : DT X (.Compare a [.Gt] [b] pos) (cTest (cBin gtO f g)) := dt_cmp op_gt (serves_rI0 fun _ _ _ _ _ _ => .bl _) ha hb (nomark _)
theorem dt_ge (ha : DE X a f) (hb : DE X b g) : DT X (.Compare a [.GtE] [b] pos) (cTest (cBin geO f g)) := dt_cmp op_ge (serves_rI0 fun _ _ _ _ _ _ => .bl _) ha hb (nomark _)
theorem dt_eq {k : Nat} (hr : Room k X.A) (ha : DE X a f) (hb : DE X b g) : DT X (.Compare a [.Eq] [b] pos) (cTest (cBin (eqO false) f g)) := dt_cmp (op_eq.or (op_eqD hr.units)) eqO_ok ha hb (nomark _)
theorem dt_ne {k : Nat} (hr : Room k X.A) (ha : DE X a f) (hb : DE X b g) : DT X (.Compare a [.NotEq] [b] pos) (cTest (cBin (eqO true) f g)) := dt_cmp (op_ne.or (op_neD hr.units)) neO_ok ha hb (nomark _)
theorem dt_isN (ha : DE X a f) (hb : DE X b g) : DT X (.Compare a [.Is] [b] pos) (cTest (cBin (isO false) f g)) := dt_cmp op_isN isO_ok ha hb (nomark _)
theorem dt_notN (ha : DE X a f) (hb : DE X b g) : DT X (.Compare a [.IsNot] [b] pos) (cTest (cBin (isO true) f g)) := dt_cmp op_notN isnO_ok ha hb (nomark _)
theorem dt_in (ha : DE X a f) (hb : DE X b g) (hm : behindInMarks .In b = false := by rfl) : DT X (.Compare a [.In] [b] pos) (cTest (cBin (inO false) f g)) := dt_cmp op_inB (inO_ok false) ha hb hm
theorem dt_notIn (ha : DE X a f) (hb : DE X b g) (hm : behindInMarks .NotIn b = false := by rfl) : DT X (.Compare a [.NotIn] [b] pos) (cTest (cBin (inO true) f g)) := dt_cmp op_ninB (inO_ok true) ha hb hm
/-- one part -/
def cUn (op : D → Option D) (f : G) : G := fun ρ S => match f ρ S with
  | none => none
  | some (x, S1) => match op x with
    | none => none
    | some z => some (z, S1)
def negO : D → Option D
  | .int i => some (.int (-i))
  | _ => none
theorem de_neg (ha : DE X a f) : DE X (.UnaryOp .USub a pos) (cUn negO f) := by
  refine PE.imp (pe_un un_neg ha) ?_
  rintro σ H Q ⟨rs, ι, ρ, S, d, S', R, En, hf, k⟩
  unfold cUn at hf
  split at hf
  · cases hf
  · rename_i x S1 e1
    split at hf
    · cases hf
    · rename_i z e2
      cases hf
      refine tE.go R En e1 fun ι1 H1 v E1 R1 En1 a1 => ?_
      unfold negO at e2
      split at e2
      · cases e2
        cases a1
        exact ⟨_, rfl, k _ _ _ E1 R1 (.int _)⟩
      · cases e2
end
end FS
set_option Elab.async false
set_option linter.all false
set_option maxRecDepth 100000
set_option maxHeartbeats 4000000
namespace FS
open PySem PySem.Spec PyProof.Rows L2

section
variable {X : Cx} {a b c o e : Expr} {es : List Expr} {f g h : G} {fs : Gs} {pos : Pos}
/-! ### an item by its place -/
theorem AtL.at {K : KR} {ι : Nat → Addr} {N : Nat} {H : Hp} {ds : List D} {vs : List V} {i : Int} {d : D} (l : AtL K ι N H ds vs) (e : atI ds i = some d) : ∃ v, atI vs i = some v ∧ At K ι N H d v := by
  unfold atI at e ⊢
  rw [← l.length]
  cases h : ixN ds.length i with
  | none => rw [h] at e; cases e
  | some j =>
    rw [h] at e
    obtain ⟨v, q, w⟩ := l.get (i := j) e
    exact ⟨v, q, w⟩
def ixO : Op2 := fun S x y => match x, y with
  | .str z, .int i => if z.length ≤ sizeLine then (atI z.cps.toList i).map fun c => .str ⟨#[c]⟩ else none
  | x, .int i => match sqOf S x with
    | some xs => atI xs i
    | none => none
  | _, _ => none
theorem ixO_ok : Serves2 X.K (rIx X.K) ixO := by
  intro rs ι S H x y v u d Q R a1 a2 e k
  unfold ixO at e
  split at e
  · split at e
    · rename_i hz
      cases a1; cases a2
      obtain ⟨c, e1, e2⟩ := Option.map_eq_some_iff.mp e
      subst e2
      exact .inr (.inr ⟨_, _, c, rfl, rfl, hz, e1, k.same R (.str _)⟩)
    · cases e
  · split at e
    · rename_i xs e1
      cases a2
      obtain ⟨p, vs, rfl, hq, z, l⟩ := sqOf_at R a1 e1
      obtain ⟨w, q, aw⟩ := l.at e
      rcases hq with hq | hq
      · exact .inl ⟨p, vs, _, w, rfl, rfl, hq, q, k.same R aw⟩
      · exact .inr (.inl ⟨p, vs, _, w, rfl, rfl, hq, q, k.same R aw⟩)
    · cases e
  · cases e
theorem de_ix (ha : DE X a f) (hb : DE X b g) (hs : PlainIx b := by intro _ _; rfl) : DE X (.Subscript a b pos) (cBin ixO f g) := PE.imp (pe_ix ix_seq ha hb hs) (cBin_of ixO_ok)

/-! ### slices -/
abbrev Gp := Rho → Sto → Option (Option Int × Sto)
def tP (K : PySem.W.Frag) (f : Gp) : TO := fun σ H Q => ∃ (rs : Addr → Prop) (ι : Nat → Addr) (ρ : Rho) (S : Sto) (p : Option Int) (S' : Sto), Rel ⟨K, rs⟩ ι S H ∧ EnvAt ⟨K, rs⟩ ι S.length H ρ σ ∧ f ρ S = some (p, S') ∧ ∀ ι' H', Ext ι S.length H ι' S'.length H' → Rel ⟨K, rs⟩ ι' S' H' → Q p H'
abbrev DO (X : Cx) (e : Option Expr) (f : Gp) : Prop := PO X e (tP X.K f)
theorem PO.imp {e : Option Expr} {t t' : TO} (h : PO X e t) (i : ∀ σ H Q, t' σ H Q → t σ H Q) : PO X e t' := ⟨fun pins s σ H Q I q => h.run pins s σ H Q I (i _ _ _ q)⟩
def cNoP : Gp := fun _ S => some (none, S)
def cP (f : G) : Gp := fun ρ S => match f ρ S with
  | some (.int i, S1) => some (some i, S1)
  | _ => none
theorem do_none : DO X none cNoP := by
  refine PO.imp po_none ?_
  rintro σ H Q ⟨rs, ι, ρ, S, p, S', R, En, hf, k⟩
  cases hf
  exact k _ _ Ext.refl R
theorem do_some (he : DE X e f) : DO X (some e) (cP f) := by
  refine PO.imp (po_some he) ?_
  rintro σ H Q ⟨rs, ι, ρ, S, p, S', R, En, hf, k⟩
  unfold cP at hf
  split at hf
  · rename_i i S1 e1
    cases hf
    refine tE.go R En e1 fun ι1 H1 v E1 R1 En1 a1 => ?_
    cases a1
    exact ⟨_, rfl, k _ _ E1 R1⟩
  · cases hf
def cutD {α : Type} (xs : List α) (lo hi : Option Int) : List α := (xs.drop (HT.sIx xs.length 0 lo)).take (HT.sIx xs.length xs.length hi - HT.sIx xs.length 0 lo)
theorem AtL.cut {K : KR} {ι : Nat → Addr} {N : Nat} {H : Hp} {ds : List D} {vs : List V} (l : AtL K ι N H ds vs) (lo hi : Option Int) : AtL K ι N H (cutD ds lo hi) (cutV vs lo hi) := by
  unfold cutD cutV
  rw [l.length]
  exact (l.drop _).take _
def sliceO (S : Sto) (x : D) (lo hi : Option Int) : Option D := match x with
  | .tup xs => some (.tup (cutD xs lo hi))
  | .str z => if z.length ≤ sizeLine then some (.str (cutS z lo hi)) else none
  | x => (lsOf S x).map fun xs => .lst (cutD xs lo hi)
def cSl (f : G) (l u : Gp) : G := fun ρ S => match f ρ S with
  | none => none
  | some (x, S1) => match l ρ S1 with
    | none => none
    | some (lo, S2) => match u ρ S2 with
      | none => none
      | some (hi, S3) => match sliceO S3 x lo hi with
        | none => none
        | some d => some (d, S3)
def rSlice (K : PySem.W.Frag) : V → Option Int → Option Int → Hp → VK → Prop := fun x lo hi H Q => (rSlA K x lo hi H Q ∨ rSlL K x lo hi H Q) ∨ rSlS x lo hi H Q
theorem sl_both : SlR X (rSlice X.K) := (sl_tupA.or sl_list).or sl_str
theorem whole_cut {α : Type} (xs : List α) {lo hi : Option Int} (h : HT.sIx xs.length 0 lo = 0 ∧ HT.sIx xs.length xs.length hi = xs.length) : cutD xs lo hi = xs := by
  unfold cutD
  rw [h.1, h.2]
  simp
theorem sliceO_ok {rs : Addr → Prop} {ι : Nat → Addr} {S : Sto} {H : Hp} {x : D} {v : V} {lo hi : Option Int} {d : D} {Q : VK} (R : Rel ⟨X.K, rs⟩ ι S H) (a1 : At ⟨X.K, rs⟩ ι S.length H x v) (e : sliceO S x lo hi = some d) (k : Post ⟨X.K, rs⟩ ι S H S d Q) : rSlice X.K v lo hi H Q := by
  unfold sliceO at e
  split at e
  · cases a1 with
    | tup h z l =>
      cases e
      have n1 := l.length
      refine .inl (.inl ⟨_, _, rfl, h, fun hw => ?_, fun _ p hp => k.tup R hp (Nat.le_trans (cutV_length _ _ _) z) (l.cut lo hi)⟩)
      rw [← n1] at hw
      rw [whole_cut _ hw] at k
      exact k.same R (.tup h z l)
  · split at e
    · rename_i hz
      cases e
      cases a1
      exact .inr ⟨_, rfl, hz, k.same R (.str _)⟩
    · cases e
  · obtain ⟨xs, e1, e2⟩ := Option.map_eq_some_iff.mp e
    subst e2
    obtain ⟨p, vs, rfl, hq, z, l⟩ := lsOf_at R a1 e1
    exact .inl (.inr ⟨p, vs, rfl, hq, fun p hp => k.lst R hp (Nat.le_trans (cutV_length _ _ _) z) (l.cut lo hi)⟩)
theorem de_slice {lo hi : Option Expr} {l u : Gp} {p2 : Pos} (ha : DE X a f) (hl : DO X lo l) (hu : DO X hi u) : DE X (.Subscript a (.Slice lo hi none p2) pos) (cSl f l u) := by
  refine PE.imp (pe_slice sl_both ha hl hu) ?_
  rintro σ H Q ⟨rs, ι, ρ, S, d, S', R, En, hf, k⟩
  unfold cSl at hf
  split at hf
  · cases hf
  · rename_i x S1 e1
    split at hf
    · cases hf
    · rename_i o1 S2 e2
      split at hf
      · cases hf
      · rename_i o2 S3 e3
        split at hf
        · cases hf
        · rename_i d1 e4
          cases hf
          refine tE.go R En e1 fun ι1 H1 v E1 R1 En1 a1 => ?_
          refine ⟨rs, ι1, ρ, S1, o1, S2, R1, En1, e2, fun ι2 H2 E2 R2 => ?_⟩
          refine ⟨rs, ι2, ρ, S2, o2, _, R2, En1.mono R1 E2, e3, fun ι3 H3 E3 R3 => ?_⟩
          exact sliceO_ok R3 ((a1.mono R1 E2).mono R2 E3) e4 (k.from (E1.trans (E2.trans E3)))

/-! ### built-in functions -/
def lenO : OpN := fun S ds => match ds with
  | [.str z] => if z.length ≤ sizeLine then some (.int z.length) else none
  | [d] => (sqOf S d).map fun xs => .int xs.length
  | _ => none
theorem lenO_ok : ServesN X.K (fun xs H Q => ∃ x n, xs = [x] ∧ LenV X.K x H n ∧ Q (.int n) H) lenO := by
  intro rs ι S H ds vs d Q R a1 e k
  unfold lenO at e
  split at e
  · split at e
    · rename_i z hz
      cases e
      cases a1 with
      | cons h t => cases h; cases t; exact ⟨_, _, rfl, ⟨hz, rfl⟩, k.same R (.int _)⟩
    · cases e
  · cases a1 with
    | cons h t =>
      cases t
      obtain ⟨xs, e1, e2⟩ := Option.map_eq_some_iff.mp e
      subst e2
      obtain ⟨p, vs, rfl, hq, z, l⟩ := sqOf_at R h e1
      refine ⟨_, vs.length, rfl, ?_, ?_⟩
      · rcases hq with hq | hq
        · exact .inl ⟨vs, hq, rfl⟩
        · exact .inr ⟨vs, hq, rfl⟩
      · have := l.length
        rw [this] at k
        exact k.same R (.int _)
  · cases e
def intOne : OpN := fun _ ds => match ds with
  | [.int i] => some (.int i)
  | [.bl b] => some (.int (if b then 1 else 0))
  | _ => none
theorem intOne_ok : ServesN X.K (fun xs H Q => (∃ i, xs = [.int i] ∧ Q (.int i) H) ∨ ∃ k, xs = [.bl k] ∧ Q (.int (if k then 1 else 0)) H) intOne := by
  intro rs ι S H ds vs d Q R a1 e k
  unfold intOne at e
  split at e
  · cases e
    cases a1 with
    | cons h t => cases h; cases t; exact .inl ⟨_, rfl, k.same R (.int _)⟩
  · cases e
    cases a1 with
    | cons h t => cases h; cases t; exact .inr ⟨_, rfl, k.same R (.int _)⟩
  · cases e
def strOne : OpN := fun _ ds => match ds with
  | [.int i] => if i.natAbs.log2 < 1920 then some (.str (toString i)) else none
  | [.bl b] => some (.str (if b then "True" else "False"))
  | _ => none
def rStrI : List V → Hp → VK → Prop := fun xs H Q => ∃ i, xs = [.int i] ∧ i.natAbs.log2 < 1920 ∧ Q (.str (toString i)) H
def rStrB : List V → Hp → VK → Prop := fun xs H Q => ∃ b, xs = [.bl b] ∧ Q (.str (if b then "True" else "False")) H
theorem call_strB : CallR X (.type "str") rStrB := by
  rintro pins s σ H xs us Q I r ⟨b, rfl, q⟩
  obtain ⟨u, rfl, r1⟩ := vals1 r
  cases r1
  exact PySem.P.str_of_bool ⟨.str _, H, I.tok _, ⟨_, rfl⟩, q⟩
theorem strOne_ok : ServesN X.K (fun xs H Q => rStrI xs H Q ∨ rStrB xs H Q) strOne := by
  intro rs ι S H ds vs d Q R a1 e k
  unfold strOne at e
  split at e
  · split at e
    · rename_i hz
      cases e
      cases a1 with
      | cons h t => cases h; cases t; exact .inl ⟨_, rfl, hz, k.same R (.str _)⟩
    · cases e
  · cases e
    cases a1 with
    | cons h t => cases h; cases t; exact .inr ⟨_, rfl, k.same R (.str _)⟩
  · cases e
def minO : OpN := fun _ ds => match ds with
  | [.int i, .int j] => some (.int (if j < i then j else i))
  | _ => none
theorem minO_ok : ServesN X.K (fun xs H Q => ∃ i j, xs = [.int i, .int j] ∧ Q (.int (if j < i then j else i)) H) minO := by
  intro rs ι S H ds vs d Q R a1 e k
  unfold minO at e
  split at e
  · cases e
    cases a1 with
    | cons h t => cases h; cases t with
      | cons h2 t2 => cases h2; cases t2; exact ⟨_, _, rfl, k.same R (.int _)⟩
  · cases e
def maxO : OpN := fun _ ds => match ds with
  | [.int i, .int j] => some (.int (if j > i then j else i))
  | _ => none
theorem maxO_ok : ServesN X.K (fun xs H Q => ∃ i j, xs = [.int i, .int j] ∧ Q (.int (if j > i then j else i)) H) maxO := by
  intro rs ι S H ds vs d Q R a1 e k
  unfold maxO at e
  split at e
  · cases e
    cases a1 with
    | cons h t => cases h; cases t with
      | cons h2 t2 => cases h2; cases t2; exact ⟨_, _, rfl, k.same R (.int _)⟩
  · cases e
def intsD : List D → Option (List Int)
  | [] => some []
  | .int i :: r => (intsD r).map (i :: ·)
  | _ :: _ => none
theorem intsD_at {K : KR} {ι : Nat → Addr} {N : Nat} {H : Hp} : ∀ {ds : List D} {vs : List V} {ns : List Int}, AtL K ι N H ds vs → intsD ds = some ns → vs = ns.map V.int
  | _, _, _, .nil, e => by simp only [intsD] at e; cases e; rfl
  | _, _, _, .cons (d := .int i) h t, e => by
    simp only [intsD] at e
    obtain ⟨r, e1, e2⟩ := Option.map_eq_some_iff.mp e
    subst e2
    cases h
    rw [intsD_at t e1]
    rfl
  | _, _, _, .cons (d := .non) _ _, e => by simp only [intsD] at e; cases e
  | _, _, _, .cons (d := .bl _) _ _, e => by simp only [intsD] at e; cases e
  | _, _, _, .cons (d := .str _) _ _, e => by simp only [intsD] at e; cases e
  | _, _, _, .cons (d := .tup _) _ _, e => by simp only [intsD] at e; cases e
  | _, _, _, .cons (d := .lst _) _ _, e => by simp only [intsD] at e; cases e
  | _, _, _, .cons (d := .scr _) _ _, e => by simp only [intsD] at e; cases e
  | _, _, _, .cons (d := .ref _) _ _, e => by simp only [intsD] at e; cases e
def sumO : OpN := fun S ds => match ds with
  | [d] => match lsOf S d with
    | some xs => (intsD xs).map fun ns => .int ns.sum
    | none => none
  | _ => none
theorem sumO_ok : ServesN X.K (rSum X.K) sumO := by
  intro rs ι S H ds vs d Q R a1 e k
  unfold sumO at e
  split at e
  · split at e
    · rename_i xs e1
      obtain ⟨ns, e2, e3⟩ := Option.map_eq_some_iff.mp e
      subst e3
      cases a1 with
      | cons h t =>
        cases t
        obtain ⟨p, ws, rfl, hq, z, l⟩ := lsOf_at R h e1
        rw [intsD_at l e2] at hq
        exact ⟨p, ns, rfl, hq, k.same R (.int _)⟩
    · cases e
  · cases e
def listO : OpN := fun S ds => match ds with
  | [d] => (sqOf S d).map .lst
  | _ => none
theorem listO_ok : ServesN X.K (fun xs H Q => ∃ p ys, xs = [.ref p] ∧ (SqL X.K H p ys ∨ SqT X.K H p ys) ∧ ∀ l, H l = none → Q (.ref l) (upd H l (.lst ys))) listO := by
  intro rs ι S H ds vs d Q R a1 e k
  unfold listO at e
  split at e
  · obtain ⟨xs, e1, e2⟩ := Option.map_eq_some_iff.mp e
    subst e2
    cases a1 with
    | cons h t =>
      cases t
      obtain ⟨p, ws, rfl, hq, z, l⟩ := sqOf_at R h e1
      exact ⟨p, ws, rfl, hq, fun q hp => k.lst R hp z l⟩
  · cases e
def tupleO : OpN := fun S ds => match ds with
  | [d] => (sqOf S d).map .tup
  | _ => none
theorem tupleO_ok : ServesN X.K (fun xs H Q => ∃ p ys, xs = [.ref p] ∧ ((SqL X.K H p ys ∧ ∀ l, H l = none → Q (.ref l) (upd H l (.tup ys))) ∨ (SqT X.K H p ys ∧ Q (.ref p) H))) tupleO := by
  intro rs ι S H ds vs d Q R a1 e k
  unfold tupleO at e
  split at e
  · obtain ⟨xs, e1, e2⟩ := Option.map_eq_some_iff.mp e
    subst e2
    cases a1 with
    | cons h t =>
      cases t
      obtain ⟨p, ws, rfl, hq, z, l⟩ := sqOf_at R h e1
      rcases hq with hq | hq
      · exact ⟨p, ws, rfl, .inl ⟨hq, fun q hp => k.tup R hp z l⟩⟩
      · exact ⟨p, ws, rfl, .inr ⟨hq, k.same R (.tup hq z l)⟩⟩
  · cases e
/-- repr of data -/
def rRepr (K : PySem.W.Frag) (A : Around) : List V → Hp → VK → Prop := fun vs H Q => ∃ v p, vs = [v] ∧ Dp K H v p ∧ PyData.showable p = true ∧ PyData.hasDict p = false ∧ PyData.depth p ≤ 64 ∧ (PyData.shown p).length ≤ sizeLine ∧ Q (.str (PyData.shown p)) H
theorem call_repr {k : Nat} (hr : Room k X.A) (hgd : X.A.guards = some []) : CallR X (.builtin "repr") (rRepr X.K X.A) := by
  intro pins s σ H vs us Q I r h
  obtain ⟨v, p, rfl, hd, h1, h2, h3, h4, q⟩ := h
  obtain ⟨u, rfl, ru⟩ := vals1 r
  obtain ⟨as, rd⟩ := Dp.reads I p v u hd ru
  have hu := hr.un
  have kept : ∀ h' uu tk, (∀ b o, s.heap.get? b = some o → h'.get? b = some o) → EP X pins σ Q (.str (PyData.shown p) uu) { s with heap := h', toks := tk } :=
    fun h' uu tk hk => ⟨.str _, H, I.kept hk, ⟨_, rfl⟩, q⟩
  cases p with
  | list xs => exact match u, rd with
    | .ref _, rd => repr_of_reads' rd h1 (fun z => by rw [h2] at z; cases z) hgd (by omega) (fun _ _ z => z) kept h4
  | tuple xs => exact match u, rd with
    | .ref _, rd => repr_of_reads' rd h1 (fun z => by rw [h2] at z; cases z) hgd (by omega) (fun _ _ z => z) kept h4
  | dict kvs => simp [PyData.hasDict] at h2
  | none =>
    cases rd
    exact PySem.P.repr_of_none ⟨.str _, H, I.tok _, ⟨_, rfl⟩, q⟩
  | bool b =>
    cases rd
    exact PySem.P.repr_of_bool ⟨.str _, H, I.tok _, ⟨_, rfl⟩, q⟩
  | int i =>
    cases rd
    exact PySem.P.repr_of_int (by simpa [PyData.showable] using h1) ⟨.str _, H, I.tok _, ⟨_, rfl⟩, q⟩
  | str x =>
    cases rd
    exact PySem.P.repr_of_str ⟨.str _, H, I.tok _, ⟨_, rfl⟩, q⟩ h4
def reprO : OpN := fun S ds => match ds with
  | [d] => match pyD (seen S d) with
    | some p => if PyData.showable p = true ∧ PyData.hasDict p = false ∧ PyData.depth p ≤ 64 ∧ (PyData.shown p).length ≤ sizeLine then some (.str (PyData.shown p)) else none
    | none => none
  | _ => none
theorem reprO_ok : ServesN X.K (rRepr X.K X.A) reprO := by
  intro rs ι S H ds vs d Q R a1 e k
  unfold reprO at e
  split at e
  · split at e
    · rename_i p e1
      split at e
      · rename_i hc
        cases e
        cases a1 with
        | cons h t =>
          cases t
          exact ⟨_, p, rfl, seen_at R h e1, hc.1, hc.2.1, hc.2.2.1, hc.2.2.2, k.same R (.str _)⟩
      · cases e
    · cases e
  · cases e

/-! ### the calls by their names -/
variable {p : Pos}
theorem de_len (hg : Gl X "len") (hm : X.mg "len" = none) (ha : DA X (e :: es) fs) (he : starEach (e :: es) X.env = (false, eval e X.env) :: starEach es X.env := by rfl) (hpl : (backTo pos (starEach es X.env)).any (·.1) = false := by rfl) :
    DE X (.Call (.Name "len" p) (e :: es) [] pos) (cOp lenO fs) := de_callB call_len lenO_ok hg hm PySem.boot_len ha (by decide) (by decide) he hpl
theorem de_intOf (hg : Gl X "int") (hm : X.mg "int" = none) (ha : DA X (e :: es) fs) (he : starEach (e :: es) X.env = (false, eval e X.env) :: starEach es X.env := by rfl) (hpl : (backTo pos (starEach es X.env)).any (·.1) = false := by rfl) :
    DE X (.Call (.Name "int" p) (e :: es) [] pos) (cOp intOne fs) := de_callTy call_int1 intOne_ok hg hm (by decide +kernel) ha (by decide) (by decide) he hpl
theorem de_strOf (hg : Gl X "str") (hm : X.mg "str" = none) (ha : DA X (e :: es) fs) (he : starEach (e :: es) X.env = (false, eval e X.env) :: starEach es X.env := by rfl) (hpl : (backTo pos (starEach es X.env)).any (·.1) = false := by rfl) :
    DE X (.Call (.Name "str" p) (e :: es) [] pos) (cOp strOne fs) := de_callTy (CallR.or (r := rStrI) (r' := rStrB) call_str_int call_strB) strOne_ok hg hm (by decide +kernel) ha (by decide) (by decide) he hpl
theorem de_min (hc : X.calm = true) (hg : Gl X "min") (hm : X.mg "min" = none) (ha : DA X (e :: es) fs) (he : starEach (e :: es) X.env = (false, eval e X.env) :: starEach es X.env := by rfl) (hpl : (backTo pos (starEach es X.env)).any (·.1) = false := by rfl) :
    DE X (.Call (.Name "min" p) (e :: es) [] pos) (cOp minO fs) := de_callB (call_min2 hc) minO_ok hg hm (by decide +kernel) ha (by decide) (by decide) he hpl
theorem de_max (hc : X.calm = true) (hg : Gl X "max") (hm : X.mg "max" = none) (ha : DA X (e :: es) fs) (he : starEach (e :: es) X.env = (false, eval e X.env) :: starEach es X.env := by rfl) (hpl : (backTo pos (starEach es X.env)).any (·.1) = false := by rfl) :
    DE X (.Call (.Name "max" p) (e :: es) [] pos) (cOp maxO fs) := de_callB (call_max2 hc) maxO_ok hg hm (by decide +kernel) ha (by decide) (by decide) he hpl
theorem de_sum (hc : X.calm = true) (hg : Gl X "sum") (hm : X.mg "sum" = none) (ha : DA X (e :: es) fs) (he : starEach (e :: es) X.env = (false, eval e X.env) :: starEach es X.env := by rfl) (hpl : (backTo pos (starEach es X.env)).any (·.1) = false := by rfl) :
    DE X (.Call (.Name "sum" p) (e :: es) [] pos) (cOp sumO fs) := de_callB (cr_sum hc) sumO_ok hg hm (by decide +kernel) ha (by decide) (by decide) he hpl
theorem de_listOf (hg : Gl X "list") (hm : X.mg "list" = none) (ha : DA X (e :: es) fs) (he : starEach (e :: es) X.env = (false, eval e X.env) :: starEach es X.env := by rfl) (hpl : (backTo pos (starEach es X.env)).any (·.1) = false := by rfl) :
    DE X (.Call (.Name "list" p) (e :: es) [] pos) (cOp listO fs) := de_callTy call_list_of listO_ok hg hm (by decide +kernel) ha (by decide) (by decide) he hpl
theorem de_tupleOf (hg : Gl X "tuple") (hm : X.mg "tuple" = none) (ha : DA X (e :: es) fs) (he : starEach (e :: es) X.env = (false, eval e X.env) :: starEach es X.env := by rfl) (hpl : (backTo pos (starEach es X.env)).any (·.1) = false := by rfl) :
    DE X (.Call (.Name "tuple" p) (e :: es) [] pos) (cOp tupleO fs) := de_callTy call_tuple_of tupleO_ok hg hm (by decide +kernel) ha (by decide) (by decide) he hpl
theorem de_repr {k : Nat} (hr : Room k X.A) (hgd : X.A.guards = some []) (hg : Gl X "repr") (hm : X.mg "repr" = none) (ha : DA X (e :: es) fs) (he : starEach (e :: es) X.env = (false, eval e X.env) :: starEach es X.env := by rfl) (hpl : (backTo pos (starEach es X.env)).any (·.1) = false := by rfl) :
    DE X (.Call (.Name "repr" p) (e :: es) [] pos) (cOp reprO fs) := de_callB (call_repr hr hgd) reprO_ok hg hm (by decide +kernel) ha (by decide) (by decide) he hpl
end
end FS
set_option Elab.async false
set_option linter.all false
set_option maxRecDepth 100000
set_option maxHeartbeats 4000000
namespace FS
open PySem PySem.Spec PyProof.Rows L2

/-! ### the same data -/
mutual
def same : D → D → Bool
  | .non, .non => true
  | .bl a, .bl b => a == b
  | .int a, .int b => a == b
  | .str a, .str b => a == b
  | .tup xs, .tup ys => sameL xs ys
  | .lst xs, .lst ys => sameL xs ys
  | .scr xs, .scr ys => sameL xs ys
  | .ref a, .ref b => a == b
  | _, _ => false
def sameL : List D → List D → Bool
  | [], [] => true
  | x :: xs, y :: ys => same x y && sameL xs ys
  | _, _ => false
end
mutual
theorem same_eq : ∀ {a b : D}, same a b = true → a = b
  | a, b, h => by
    cases a <;> cases b <;> simp only [same, Bool.false_eq_true, beq_iff_eq] at h <;> first
      | rfl
      | (rw [h])
      | (rw [sameL_eq h])
theorem sameL_eq : ∀ {a b : List D}, sameL a b = true → a = b
  | [], [], _ => rfl
  | x :: xs, y :: ys, h => by
    simp only [sameL, Bool.and_eq_true] at h
    rw [same_eq h.1, sameL_eq h.2]
  | [], _ :: _, h => by simp [sameL] at h
  | _ :: _, [], h => by simp [sameL] at h
end
mutual
theorem same_refl : ∀ a : D, same a a = true
  | .non => rfl
  | .bl a => by simp [same]
  | .int a => by simp [same]
  | .str a => by simp [same]
  | .tup xs => by simp only [same]; exact sameL_refl xs
  | .lst xs => by simp only [same]; exact sameL_refl xs
  | .scr xs => by simp only [same]; exact sameL_refl xs
  | .ref a => by simp [same]
theorem sameL_refl : ∀ a : List D, sameL a a = true
  | [] => rfl
  | x :: xs => by simp only [sameL, same_refl x, sameL_refl xs]; rfl
end

/-! ### what is walked -/
/-- the items; the list in the store that they come from, if it may change -/
abbrev Src := Rho → Sto → Option (List D × Option Nat × Sto)
/-- the source stands as it was -/
def still (xs : List D) (w : Option Nat) (S : Sto) : Bool := match w with
  | none => true
  | some n => match S[n]? with
    | some (.lst ys) => sameL ys xs
    | _ => false
structure Yl (k : PySem.W.Frag) (rs : Addr → Prop) (J : It) (ι : Nat → Addr) (S : Sto) (H : Hp) (xs : List D) (w : Option Nat) : Prop where
  sz : xs.length ≤ sizeLine
  go : ∀ (rs' : Addr → Prop) ι2 S2 H2, (∀ a o, H a = some o → rs' a → rs a) → Ext ι S.length H ι2 S2.length H2 → Rel ⟨k, rs'⟩ ι2 S2 H2 → still xs w S2 = true → ∀ i, i < xs.length → J.go i H2
  stop : ∀ (rs' : Addr → Prop) ι2 S2 H2, (∀ a o, H a = some o → rs' a → rs a) → Ext ι S.length H ι2 S2.length H2 → Rel ⟨k, rs'⟩ ι2 S2 H2 → still xs w S2 = true → J.stop xs.length H2
  yld : ∀ (rs' : Addr → Prop) ι2 S2 H2, (∀ a o, H a = some o → rs' a → rs a) → Ext ι S.length H ι2 S2.length H2 → Rel ⟨k, rs'⟩ ι2 S2 H2 → still xs w S2 = true → ∀ i d, xs[i]? = some d → ∀ x H3, J.yld i H2 x H3 →
    Ext ι2 S2.length H2 ι2 S2.length H3 ∧ Rel ⟨k, rs'⟩ ι2 S2 H3 ∧ At ⟨k, rs'⟩ ι2 S2.length H3 d x
def tI (K : PySem.W.Frag) (src : Src) : TI := fun σ H Rr => ∃ (rs : Addr → Prop) (ι : Nat → Addr) (ρ : Rho) (S : Sto) (xs : List D) (w : Option Nat) (S' : Sto), Rel ⟨K, rs⟩ ι S H ∧ EnvAt ⟨K, rs⟩ ι S.length H ρ σ ∧ src ρ S = some (xs, w, S') ∧
  ∀ ι' H' J, Ext ι S.length H ι' S'.length H' → Rel ⟨K, rs⟩ ι' S' H' → still xs w S' = true → Yl K rs J ι' S' H' xs w → Rr J H'
abbrev DI (X : Cx) (tg iter : Expr) (src : Src) : Prop := PI X tg iter (tI X.K src)
theorem PI.imp {X : Cx} {tg e : Expr} {t t' : TI} (h : PI X tg e t) (i : ∀ σ H Q, t' σ H Q → t σ H Q) : PI X tg e t' := ⟨fun pins s σ H Q I q => h.run pins s σ H Q I (i _ _ _ q)⟩
section
variable {X : Cx} {tg e : Expr} {f g : G}
/-- a list or a tuple, by its value -/
def iSeq (K : PySem.W.Frag) (tl : TE) : TI := fun σ H R => tl σ H fun x H1 => ∃ a, x = .ref a ∧ (((∃ xs, SqL K H1 a xs) ∧ R (Itl K a) H1) ∨ ((∃ xs, SqT K H1 a xs) ∧ R (Itt K a) H1))
def iSeqS (K : PySem.W.Frag) (tl : TE) : TI := fun σ H R => tl σ H fun x H1 => (∃ a, x = .ref a ∧ (((∃ xs, SqL K H1 a xs) ∧ R (Itl K a) H1) ∨ ((∃ xs, SqT K H1 a xs) ∧ R (Itt K a) H1))) ∨ ∃ z, x = .str z ∧ R (Its z) H1
theorem pi_seq {l : Expr} {tl : TE} (hl : PE X l tl) : PI X tg l (iSeqS X.K tl) := by
  constructor
  intro pins s σ H R I h
  apply thn (hl.run pins s σ H _ I h)
  rintro v s1 ⟨x, H1, I1, r1, q1⟩
  rcases q1 with ⟨a, ex, q1⟩ | ⟨z, ex, q⟩
  rotate_left
  · subst ex
    obtain ⟨t, rfl⟩ := r1
    have fp : ∀ b ∈ [s1.heap.objs.size], FpOk X pins H1 b := by
      intro b hb
      rw [List.mem_singleton] at hb
      subst hb
      exact I1.fpOk (Nat.le_refl _) (I1.hok.fresh (Nat.le_refl _))
    cases ha : z.cps.all (· < 128)
    · exact wpAny_pyIter_wide ha ⟨s1.heap.objs.size, [s1.heap.objs.size], _, Its z, H1, rfl, I1.kept (t' := s1.toks) (fun b o e => Heap.get?_push_of_some _ e), turn_str _ z t "str_iterator" (.inr rfl), ⟨_, Heap.get?_push_size _ rfl, rfl, rfl⟩, fp, q⟩
    · exact wpAny_pyIter_ascii ha ⟨s1.heap.objs.size, [s1.heap.objs.size], _, Its z, H1, rfl, I1.kept (t' := s1.toks) (fun b o e => Heap.get?_push_of_some _ e), turn_str _ z t "str_ascii_iterator" (.inl rfl), ⟨_, Heap.get?_push_size _ rfl, rfl, rfl⟩, fp, q⟩
  subst ex
  cases r1
  have fp : ∀ (it : Addr), it = s1.heap.objs.size → ∀ b ∈ [it], FpOk X pins H1 b := by
    intro it hi b hb
    rw [List.mem_singleton] at hb
    subst hb
    subst hi
    exact I1.fpOk (Nat.le_refl _) (I1.hok.fresh (Nat.le_refl _))
  rcases q1 with ⟨⟨xs, hq⟩, q⟩ | ⟨⟨xs, hq⟩, q⟩
  · obtain ⟨its, rv, p, hz⟩ := I1.list hq
    apply wpAny_pyIter_list p.isList
    exact ⟨s1.heap.objs.size, [s1.heap.objs.size], _, Itl X.K a, H1, rfl, I1.kept (t' := s1.toks) (fun b o e => Heap.get?_push_of_some _ e), turn_list a _, ⟨_, Heap.get?_push_size _ rfl, rfl, rfl⟩, fp _ rfl, q⟩
  · obtain ⟨its, rv, p, hz⟩ := I1.tuple hq
    apply wpAny_pyIter_tuple (show s1.heap.IsTuple a its.toArray from p)
    exact ⟨s1.heap.objs.size, [s1.heap.objs.size], _, Itt X.K a, H1, rfl, I1.kept (t' := s1.toks) (fun b o e => Heap.get?_push_of_some _ e), turn_tuple a _, ⟨_, Heap.get?_push_size _ rfl, rfl, rfl⟩, fp _ rfl, q⟩
/-- a text's signs -/
def signsD (z : Str) : List D := z.cps.toList.map fun c => .str ⟨#[c]⟩
def sSeq (f : G) : Src := fun ρ S => match f ρ S with
  | some (.tup xs, S1) => some (xs, none, S1)
  | some (.lst xs, S1) => some (xs, none, S1)
  | some (.ref n, S1) => match S1[n]? with
    | some (.lst xs) => some (xs, some n, S1)
    | _ => none
  | some (.str z, S1) => if z.length ≤ sizeLine then some (signsD z, none, S1) else none
  | _ => none
variable {k : PySem.W.Frag} {rs : Addr → Prop} {ι : Nat → Addr} {S : Sto} {H : Hp} {a : Addr} {xs : List D} {vs : List V}
theorem yl_tup (R : Rel ⟨k, rs⟩ ι S H) (h : SqT k H a vs) (z : vs.length ≤ sizeLine) (l : AtL ⟨k, rs⟩ ι S.length H xs vs) : Yl k rs (Itt k a) ι S H xs none := by
  have hl := l.length
  refine ⟨by omega, fun rs' ι2 S2 H2 _ E R2 _ i hi => ?_, fun rs' ι2 S2 H2 _ E R2 _ => ⟨vs, sqT_mono (K := ⟨k, rs⟩) R E h, by omega⟩, fun rs' ι2 S2 H2 hw E R2 _ i d hd x H3 y => ?_⟩
  · exact ⟨vs, vs[i], sqT_mono (K := ⟨k, rs⟩) R E h, List.getElem?_eq_getElem (by omega)⟩
  · obtain ⟨e1, e2⟩ := y
    subst e1
    obtain ⟨v, q, w⟩ := ((l.wide hw).mono R E).get hd
    have := e2 vs (sqT_mono (K := ⟨k, rs⟩) R E h)
    rw [q] at this
    cases this
    exact ⟨Ext.refl, R2, w⟩
theorem yl_lst (R : Rel ⟨k, rs⟩ ι S H) (h : RdL ⟨k, rs⟩ ι S.length H a vs) (z : vs.length ≤ sizeLine) (l : AtL ⟨k, rs⟩ ι S.length H xs vs) : Yl k rs (Itl k a) ι S H xs none := by
  have hl := l.length
  refine ⟨by omega, fun rs' ι2 S2 H2 _ E R2 _ i hi => ?_, fun rs' ι2 S2 H2 _ E R2 _ => ⟨vs, (rdL_mono E h).sq, by omega⟩, fun rs' ι2 S2 H2 hw E R2 _ i d hd x H3 y => ?_⟩
  · exact ⟨vs, vs[i], (rdL_mono E h).sq, List.getElem?_eq_getElem (by omega)⟩
  · obtain ⟨e1, e2⟩ := y
    subst e1
    obtain ⟨v, q, w⟩ := ((l.wide hw).mono R E).get hd
    have := e2 vs (rdL_mono E h).sq
    rw [q] at this
    cases this
    exact ⟨Ext.refl, R2, w⟩
theorem yl_ref {n : Nat} (hn : n < S.length) (z : xs.length ≤ sizeLine) : Yl k rs (Itl k (ι n)) ι S H xs (some n) := by
  have key : ∀ {rs' : Addr → Prop} {ι2 S2 H2}, Ext ι S.length H ι2 S2.length H2 → Rel ⟨k, rs'⟩ ι2 S2 H2 → still xs (some n) S2 = true → ∃ vs, SqL k H2 (ι n) vs ∧ AtL ⟨k, rs'⟩ ι2 S2.length H2 xs vs := by
    intro rs' ι2 S2 H2 E R2 st
    simp only [still] at st
    split at st
    · rename_i ys e
      have := sameL_eq st
      subst this
      obtain ⟨vs, q, l, _⟩ := R2.obj n _ e
      rw [E.eqi n hn] at q
      exact ⟨vs, .of q, l⟩
    · cases st
  refine ⟨z, fun rs' ι2 S2 H2 _ E R2 st i hi => ?_, fun rs' ι2 S2 H2 _ E R2 st => ?_, fun rs' ι2 S2 H2 _ E R2 st i d hd x H3 y => ?_⟩
  · obtain ⟨vs, h, l⟩ := key E R2 st
    have hl := l.length
    exact ⟨vs, vs[i], h, List.getElem?_eq_getElem (by omega)⟩
  · obtain ⟨vs, h, l⟩ := key E R2 st
    have hl := l.length
    exact ⟨vs, h, by omega⟩
  · obtain ⟨vs, h, l⟩ := key E R2 st
    obtain ⟨e1, e2⟩ := y
    subst e1
    obtain ⟨v, q, w⟩ := l.get hd
    have := e2 vs h
    rw [q] at this
    cases this
    exact ⟨Ext.refl, R2, w⟩
theorem yl_str {z : Str} (hz : z.length ≤ sizeLine) : Yl k rs (Its z) ι S H (signsD z) none := by
  have hl : (signsD z).length = z.cps.size := by unfold signsD; simp
  refine ⟨by rw [hl]; exact hz, fun rs' ι2 S2 H2 _ E R2 _ i hi => by rw [hl] at hi; exact hi, fun rs' ι2 S2 H2 _ E R2 _ => by rw [hl]; exact Nat.le_refl _, fun rs' ι2 S2 H2 hw E R2 _ i d hd x H3 y => ?_⟩
  obtain ⟨e1, c, e2, e3⟩ := y
  subst e1
  subst e3
  unfold signsD at hd
  rw [List.getElem?_map, Array.getElem?_toList, e2] at hd
  cases hd
  exact ⟨Ext.refl, R2, .str _⟩
theorem di_seq (he : DE X e f) : DI X tg e (sSeq f) := by
  refine PI.imp (pi_seq he) ?_
  rintro σ H Q ⟨rs, ι, ρ, S, xs, w, S', R, En, hf, kk⟩
  unfold sSeq at hf
  split at hf
  · rename_i ys S1 e1
    cases hf
    refine tE.go R En e1 fun ι1 H1 v E1 R1 En1 a1 => ?_
    cases a1 with
    | tup h z l => exact (.inl ⟨_, rfl, .inr ⟨⟨_, h⟩, kk _ _ _ E1 R1 rfl (yl_tup R1 h z l)⟩⟩)
  · rename_i ys S1 e1
    cases hf
    refine tE.go R En e1 fun ι1 H1 v E1 R1 En1 a1 => ?_
    cases a1 with
    | lst h z l => exact .inl ⟨_, rfl, .inl ⟨⟨_, h.sq⟩, kk _ _ _ E1 R1 rfl (yl_lst R1 h z l)⟩⟩
  · rename_i n S1 e1
    split at hf
    · rename_i ys e2
      cases hf
      refine tE.go R En e1 fun ι1 H1 v E1 R1 En1 a1 => ?_
      cases a1 with
      | ref hn =>
        obtain ⟨vs, q, l, z⟩ := R1.obj n _ e2
        refine .inl ⟨_, rfl, .inl ⟨⟨vs, .of q⟩, kk _ _ _ E1 R1 ?_ (yl_ref hn (by rw [l.length]; exact z))⟩⟩
        simp only [still, e2]
        exact sameL_refl _
    · cases hf
  · split at hf
    · rename_i z S1 e1 hz
      cases hf
      refine tE.go R En e1 fun ι1 H1 v E1 R1 En1 a1 => ?_
      cases a1 with
      | str _ => exact .inr ⟨_, rfl, kk _ _ _ E1 R1 rfl (yl_str hz)⟩
    · cases hf
  · cases hf
/-- whole numbers in a row -/
def intsFrom (lo : Int) : Nat → List D
  | 0 => []
  | n + 1 => .int lo :: intsFrom (lo + 1) n
theorem intsFrom_length : ∀ (n : Nat) (lo : Int), (intsFrom lo n).length = n
  | 0, _ => rfl
  | n + 1, lo => by simp only [intsFrom, List.length_cons, intsFrom_length n]
theorem intsFrom_get : ∀ (n : Nat) (lo : Int) (i : Nat) (d : D), (intsFrom lo n)[i]? = some d → d = .int (lo + i)
  | 0, _, _, _, h => by simp [intsFrom] at h
  | n + 1, lo, 0, d, h => by simp [intsFrom] at h; rw [← h]; simp
  | n + 1, lo, i + 1, d, h => by
    have := intsFrom_get n (lo + 1) i d (by simpa [intsFrom] using h)
    rw [this]
    congr 1
    omega
theorem yl_rng {lo : Int} {n : Nat} (z : n ≤ sizeLine) : Yl k rs (Itr lo n) ι S H (intsFrom lo n) none := by
  have hl := intsFrom_length n lo
  refine ⟨by rw [hl]; exact z, fun rs' ι2 S2 H2 _ E R2 _ i hi => by rw [hl] at hi; exact hi, fun rs' ι2 S2 H2 _ E R2 _ => by rw [hl]; exact Nat.le_refl _, fun rs' ι2 S2 H2 hw E R2 _ i d hd x H3 y => ?_⟩
  obtain ⟨e1, e2⟩ := y
  subst e1 e2
  rw [intsFrom_get _ _ _ _ hd]
  exact ⟨Ext.refl, R2, .int _⟩
def sRng1 (r : Gs) : Src := fun ρ S => match r ρ S with
  | some ([.int j], S1) => if j ≤ 1000000 ∧ -1000000 ≤ j then some (intsFrom 0 j.toNat, none, S1) else none
  | _ => none
def sRng2 (r : Gs) : Src := fun ρ S => match r ρ S with
  | some ([.int i, .int j], S1) => if i ≤ 1000000 ∧ -1000000 ≤ i ∧ j ≤ 1000000 ∧ -1000000 ≤ j then some (intsFrom i (j - i).toNat, none, S1) else none
  | _ => none
theorem di_rng1 {a : Expr} {fs : Gs} {p pos : Pos} (hg : Gl X "range") (hm : X.mg "range" = none) (ha : DA X [a] fs) (hs : starEach [a] X.env = [(false, eval a X.env)] := by rfl) : DI X tg (.Call (.Name "range" p) [a] [] pos) (sRng1 fs) := by
  refine PI.imp (pi_range1 hg hm ha hs) ?_
  rintro σ H Q ⟨rs, ι, ρ, S, xs, w, S', R, En, hf, kk⟩
  unfold sRng1 at hf
  split at hf
  · rename_i j S1 e1
    split at hf
    · rename_i hj
      cases hf
      refine tL.go R En e1 fun ι1 H1 vs E1 R1 En1 a1 => ?_
      cases a1 with
      | cons h t =>
        cases h; cases t
        refine ⟨j, rfl, by omega, by omega, kk _ _ _ E1 R1 rfl (yl_rng (by rw [sizeLine_eq]; omega))⟩
    · cases hf
  · cases hf
theorem di_rng2 {a b : Expr} {fs : Gs} {p pos : Pos} (hg : Gl X "range") (hm : X.mg "range" = none) (ha : DA X [a, b] fs) (hs : starEach [a, b] X.env = [(false, eval a X.env), (false, eval b X.env)] := by rfl) (hs2 : starEach [b] X.env = [(false, eval b X.env)] := by rfl) : DI X tg (.Call (.Name "range" p) [a, b] [] pos) (sRng2 fs) := by
  refine PI.imp (pi_range2 hg hm ha hs hs2) ?_
  rintro σ H Q ⟨rs, ι, ρ, S, xs, w, S', R, En, hf, kk⟩
  unfold sRng2 at hf
  split at hf
  · rename_i i j S1 e1
    split at hf
    · rename_i hj
      cases hf
      refine tL.go R En e1 fun ι1 H1 vs E1 R1 En1 a1 => ?_
      cases a1 with
      | cons h t =>
        cases h
        cases t with
        | cons h t =>
          cases h; cases t
          refine ⟨i, j, rfl, by omega, kk _ _ _ E1 R1 rfl (yl_rng (by rw [sizeLine_eq]; omega))⟩
    · cases hf
  · cases hf
end

/-! ### targets -/
abbrev Tg := D → Rho → Option Rho
def tG (K : PySem.W.Frag) (t : Tg) (ix : List Nat) : TG := fun v σ H Q => ∃ (rs : Addr → Prop) (ι : Nat → Addr) (ρ : Rho) (S : Sto) (d : D) (ρ' : Rho), Rel ⟨K, rs⟩ ι S H ∧ EnvAt ⟨K, rs⟩ ι S.length H ρ σ ∧ At ⟨K, rs⟩ ι S.length H d v ∧ t d ρ = some ρ' ∧
  ∀ σ', EnvAt ⟨K, rs⟩ ι S.length H ρ' σ' → σ'.length = σ.length → (∀ j, j ∉ ix → σ'[j]? = σ[j]?) → Q σ' H
def tGs (K : PySem.W.Frag) (ts : List Tg) (ix : List Nat) : TGs := fun vs σ H Q => ∃ (rs : Addr → Prop) (ι : Nat → Addr) (ρ : Rho) (S : Sto) (ds : List D) (ρ' : Rho), Rel ⟨K, rs⟩ ι S H ∧ EnvAt ⟨K, rs⟩ ι S.length H ρ σ ∧ AtL ⟨K, rs⟩ ι S.length H ds vs ∧ setAll ts ds ρ = some ρ' ∧
  ∀ σ', EnvAt ⟨K, rs⟩ ι S.length H ρ' σ' → σ'.length = σ.length → (∀ j, j ∉ ix → σ'[j]? = σ[j]?) → Q σ' H
where
  setAll : List Tg → List D → Rho → Option Rho
    | [], [], ρ => some ρ
    | t :: ts, d :: ds, ρ => match t d ρ with
      | some ρ1 => setAll ts ds ρ1
      | none => none
    | _, _, _ => none
abbrev setAll := tGs.setAll
abbrev DG (X : Cx) (tg : Expr) (t : Tg) (ix : List Nat) : Prop := PG X tg (tG X.K t ix)
abbrev DGs (X : Cx) (tgs : List Expr) (ts : List Tg) (ix : List Nat) : Prop := PGs X tgs (tGs X.K ts ix)
theorem PG.imp {X : Cx} {e : Expr} {t t' : TG} (h : PG X e t) (i : ∀ v σ H Q, t' v σ H Q → t v σ H Q) : PG X e t' := ⟨fun pins s σ H v u Q I r q => h.run pins s σ H v u Q I r (i _ _ _ _ q)⟩
theorem PGs.imp {X : Cx} {e : List Expr} {t t' : TGs} (h : PGs X e t) (i : ∀ v σ H Q, t' v σ H Q → t v σ H Q) : PGs X e t' := ⟨fun pins s σ H v u Q I r q => h.run pins s σ H v u Q I r (i _ _ _ _ q)⟩
def gNm (i : Nat) : Tg := fun d ρ => some (ρ.set i (some d))
def gTp (ts : List Tg) : Tg := fun d ρ => match d with
  | .tup xs => setAll ts xs ρ
  | _ => none
section
variable {X : Cx} {pos : Pos} {e : Expr} {es : List Expr}
theorem dg_nm (i : Nat) {x : Str} (hN : X.N.Nodup) (hi : X.N[i]? = some x) (hx : Loc X.env.scope x) (hf : X.fn x = true ∨ X.env.scope.names.lookup x = some .local := by first | exact .inl rfl | exact .inr rfl | assumption) : DG X (.Name x pos) (gNm i) [i] := by
  refine PG.imp (pg_name hN hi hx hf) ?_
  rintro v σ H Q ⟨rs, ι, ρ, S, d, ρ', R, En, a, ht, k⟩
  cases ht
  refine k _ (En.set a) (by simp) fun j hj => ?_
  rw [List.mem_singleton] at hj
  exact List.getElem?_set_ne (Ne.symm hj)
theorem dgs_nil : DGs X [] [] [] := by
  refine PGs.imp pgs_nil ?_
  rintro v σ H Q ⟨rs, ι, ρ, S, d, ρ', R, En, a, ht, k⟩
  cases a with
  | nil => cases ht; exact ⟨rfl, k _ En rfl fun _ _ => rfl⟩
  | cons _ _ => cases ht
theorem dgs_cons {t : Tg} {ts : List Tg} {ix iy : List Nat} (h1 : DG X e t ix) (h2 : DGs X es ts iy) (hs : (assignEach (e :: es) X.env).map (·.2) = assign e X.env :: (assignEach es X.env).map (·.2) := by rfl) : DGs X (e :: es) (t :: ts) (ix ++ iy) := by
  refine PGs.imp (pgs_cons h1 h2 hs) ?_
  rintro v σ H Q ⟨rs, ι, ρ, S, d, ρ', R, En, a, ht, k⟩
  cases a with
  | nil => cases ht
  | cons h tl =>
    simp only [tGs.setAll] at ht
    split at ht
    · rename_i ρ1 e1
      refine ⟨_, _, rfl, rs, ι, ρ, S, _, ρ1, R, En, h, e1, fun σ1 En1 l1 q1 => ?_⟩
      refine ⟨rs, ι, ρ1, S, _, ρ', R, En1, tl, ht, fun σ2 En2 l2 q2 => k σ2 En2 (l2.trans l1) fun j hj => ?_⟩
      rw [List.mem_append] at hj
      exact (q2 j fun z => hj (.inr z)).trans (q1 j fun z => hj (.inl z))
    · cases ht
theorem dg_tp {kk n : Nat} {ts : List Tg} {ix : List Nat} (hc : X.calm = true) (h : DGs X es ts ix) (hl : ts.length = n := by rfl) (hn : (assignEach es X.env).length = n := by rfl) (hst : (assignEach es X.env).findIdx? (·.1) = none := by rfl) : DG X (.Tuple es kk pos) (gTp ts) ix := by
  refine PG.imp (pg_tup hc h hn hst) ?_
  rintro v σ H Q ⟨rs, ι, ρ, S, d, ρ', R, En, a, ht, k⟩
  unfold gTp at ht
  split at ht
  · cases a with
    | tup q z l =>
      have len : ∀ (ts : List Tg) (ds : List D) (ρ ρ' : Rho), setAll ts ds ρ = some ρ' → ds.length = ts.length := by
        intro ts
        induction ts with
        | nil => intro ds ρ ρ' h; cases ds with
          | nil => rfl
          | cons _ _ => cases h
        | cons t ts ih => intro ds ρ ρ' h; cases ds with
          | nil => cases h
          | cons d ds =>
            simp only [tGs.setAll] at h
            split at h
            · simp [ih _ _ _ h]
            · cases h
      refine ⟨_, _, rfl, q, ?_, rs, ι, ρ, S, _, ρ', R, En, l, ht, k⟩
      rw [← l.length, len _ _ _ _ ht, hl]
  · cases ht
end
end FS
set_option Elab.async false
set_option linter.all false
set_option maxRecDepth 100000
set_option maxHeartbeats 4000000
namespace FS
open PySem PySem.Spec PyProof.Rows L2

theorem EndsP.from {K : KR} {ι ι1 : Nat → Addr} {S S1 S' : Sto} {H H1 : Hp} {D' : Ends} {ρ' : Rho} : ∀ {fl : Flw}, EndsP K ι S H D' fl ρ' S' → Ext ι S.length H ι1 S1.length H1 → EndsP K ι1 S1 H1 D' fl ρ' S'
  | .nx, k, E => fun ι' σ' H' E' R' En' => k ι' σ' H' (E.trans E') R' En'
  | .bk, k, E => fun ι' σ' H' E' R' En' => k ι' σ' H' (E.trans E') R' En'
  | .ct, k, E => fun ι' σ' H' E' R' En' => k ι' σ' H' (E.trans E') R' En'
  | .rt _, k, E => Post.from k E

/-! ### for -/
def forB (c : Sto → Bool) (t : Tg) (b : B) : List D → Rho → Sto → Option (Flw × Rho × Sto)
  | [], ρ, S => some (.nx, ρ, S)
  | x :: xs, ρ, S => match t x ρ with
    | none => none
    | some ρ1 => match b ρ1 S with
      | some (.nx, ρ2, S2) => if c S2 = true then forB c t b xs ρ2 S2 else none
      | some (.ct, ρ2, S2) => if c S2 = true then forB c t b xs ρ2 S2 else none
      | some (.bk, ρ2, S2) => some (.nx, ρ2, S2)
      | some (.rt d, ρ2, S2) => some (.rt d, ρ2, S2)
      | none => none
def cFor (src : Src) (t : Tg) (b : B) : B := fun ρ S => match src ρ S with
  | some (xs, w, S1) => forB (still xs w) t b xs ρ S1
  | none => none
/-- between two turns: the items ys are left -/
def ForAt (k : PySem.W.Frag) (rs : Addr → Prop) (ι1 : Nat → Addr) (S1 : Sto) (H1 : Hp) (D' : Ends) (c : Sto → Bool) (t : Tg) (b : B) (fl : Flw) (ρ' : Rho) (S' : Sto) (ys : List D) (σ : L2.St) (H : Hp) : Prop :=
  ∃ ι2 ρ2 S2, Ext ι1 S1.length H1 ι2 S2.length H ∧ Rel ⟨k, rs⟩ ι2 S2 H ∧ EnvAt ⟨k, rs⟩ ι2 S2.length H ρ2 σ ∧ c S2 = true ∧ forB c t b ys ρ2 S2 = some (fl, ρ', S') ∧ EndsP ⟨k, rs⟩ ι2 S2 H D' fl ρ' S'
section
variable {X : Cx} {tg iter : Expr} {pos : Pos} {body : List Stmt} {src : Src} {t : Tg} {ix : List Nat} {b : B}
theorem ds_for (hp : PassesOwn (model X.prog X.w) X.A X.env X.xe) (hc : X.calm = true) (hi : DI X tg iter src) (hg : DG X tg t ix) (hb : DSs X body b)
    (hs : ∀ x, foldedSetIterable iter X.env x = pure x := by intro _; rfl) : DS X (.For tg iter body [] pos) (cFor src t b) := by
  refine PS.imp (ps_for hp hc hi hg hb hs) ?_
  rintro D' σ H ⟨rs, ι, ρ, S, fl, ρ', S', R, En, hf, kk⟩
  unfold cFor at hf
  split at hf
  case h_2 => cases hf
  rename_i xs w S1 e1
  refine ⟨rs, ι, ρ, S, xs, w, S1, R, En, e1, fun ι1 H1 J E1 R1 st1 y => ?_⟩
  refine ⟨fun i m σ2 H2 => m = xs.length - i ∧ i ≤ xs.length ∧ ForAt X.K rs ι1 S1 H1 D' (still xs w) t b fl ρ' S' (xs.drop i) σ2 H2, ⟨xs.length, by simp, Nat.zero_le _, ι1, ρ, S1, Ext.refl, R1, En.mono R E1, st1, hf, kk.from E1⟩, ?_⟩
  rintro i m σ2 H2 ⟨rfl, hi', ι2, ρ2, S2, E2, R2, En2, st2, hf2, k2⟩
  by_cases hlt : i < xs.length
  · refine .inr ⟨y.go rs ι2 S2 H2 (fun _ _ _ z => z) E2 R2 st2 i hlt, ForAt X.K rs ι1 S1 H1 D' (still xs w) t b fl ρ' S' (xs.drop (i + 1)), fun σ3 H3 h3 => ⟨xs.length - (i + 1), by omega, rfl, by omega, h3⟩, fun x H3 hy => ?_⟩
    have hd : xs[i]? = some xs[i] := List.getElem?_eq_getElem hlt
    obtain ⟨E3, R3, a3⟩ := y.yld rs ι2 S2 H2 (fun _ _ _ z => z) E2 R2 st2 i _ hd x H3 hy
    rw [List.drop_eq_getElem_cons hlt] at hf2
    simp only [forB] at hf2
    split at hf2
    · cases hf2
    · rename_i ρ3 e3
      refine ⟨rs, ι2, ρ2, S2, _, ρ3, R3, En2.mono R2 E3, a3, e3, fun σ4 En4 _ _ => ?_⟩
      cases e4 : b ρ3 S2 with
      | none => rw [e4] at hf2; cases hf2
      | some r =>
        obtain ⟨fl2, ρ4, S4⟩ := r
        refine ⟨rs, ι2, ρ3, S2, fl2, ρ4, S4, R3, En4, e4, ?_⟩
        rw [e4] at hf2
        cases fl2 with
        | nx =>
          intro ι5 σ5 H5 E5 R5 En5
          dsimp only at hf2
          split at hf2
          · rename_i st5
            exact ⟨ι5, ρ4, S4, (E2.trans E3).trans E5, R5, En5, st5, hf2, k2.from (E3.trans E5)⟩
          · cases hf2
        | ct =>
          intro ι5 σ5 H5 E5 R5 En5
          dsimp only at hf2
          split at hf2
          · rename_i st5
            exact ⟨ι5, ρ4, S4, (E2.trans E3).trans E5, R5, En5, st5, hf2, k2.from (E3.trans E5)⟩
          · cases hf2
        | bk => cases hf2; exact EndsP.from (fl := .nx) k2 E3
        | rt d => cases hf2; exact Post.from k2 E3
  · have e : i = xs.length := by omega
    subst e
    rw [List.drop_length] at hf2
    cases hf2
    exact .inl ⟨y.stop rs ι2 _ H2 (fun _ _ _ z => z) E2 R2 st2, k2 ι2 σ2 H2 Ext.refl R2 En2⟩
end

/-! ### list comprehensions -/
def wipeR (ρ : Rho) : List Nat → Rho
  | [] => ρ
  | v :: vs => (wipeR ρ vs).set v none
theorem EnvAt.wipe {K : KR} {ι : Nat → Addr} {N : Nat} {H : Hp} {ρ : Rho} {σ : L2.St} (h : EnvAt K ι N H ρ σ) : ∀ vs : List Nat, EnvAt K ι N H (wipeR ρ vs) (wipe σ vs)
  | [] => h
  | v :: vs => by
    have ih := EnvAt.wipe h vs
    refine ⟨by simp only [wipeR, L2.wipe, List.length_set]; exact ih.1, fun i d e => ?_⟩
    simp only [wipeR, L2.wipe] at e ⊢
    by_cases hv : v = i
    · subst hv
      by_cases hl : v < (wipeR ρ vs).length
      · rw [List.getElem?_set_self hl] at e; cases e
      · rw [List.getElem?_eq_none (by simpa using hl)] at e; cases e
    · rw [List.getElem?_set_ne hv] at e ⊢
      exact ih.2 i d e
theorem wipe_in {σ : L2.St} {i : Nat} : ∀ {vs : List Nat}, i ∈ vs → i < σ.length → (wipe σ vs)[i]? = some none
  | v :: vs, h, hl => by
    simp only [L2.wipe]
    by_cases hv : v = i
    · subst hv
      rw [List.getElem?_set_self (by rw [wipe_length]; exact hl)]
    · rw [List.getElem?_set_ne hv]
      rcases List.mem_cons.mp h with z | z
      · exact absurd z.symm hv
      · exact wipe_in z hl
theorem wipe_again {σ τ : L2.St} {vs : List Nat} (hl : τ.length = (wipe σ vs).length) (h : ∀ j, j ∉ vs → τ[j]? = (wipe σ vs)[j]?) : wipe τ vs = wipe σ vs := by
  apply List.ext_getElem?
  intro i
  by_cases hi : i ∈ vs
  · by_cases hlt : i < σ.length
    · rw [wipe_in hi hlt, wipe_in hi (by rw [hl, wipe_length]; exact hlt)]
    · rw [List.getElem?_eq_none (by rw [wipe_length, hl, wipe_length]; omega), List.getElem?_eq_none (by rw [wipe_length]; omega)]
  · rw [wipe_out hi, h i hi]
def lcB (t : Tg) (c : Gb) (f : G) (st : Sto → Bool) (ρ : Rho) : List D → Sto → Option (List D × Sto)
  | [], S => some ([], S)
  | x :: xs, S => match t x ρ with
    | none => none
    | some ρ1 => match c ρ1 S with
      | none => none
      | some (false, S1) => if st S1 = true then lcB t c f st ρ xs S1 else none
      | some (true, S1) => match f ρ1 S1 with
        | none => none
        | some (d, S2) => if st S2 = true then (match lcB t c f st ρ xs S2 with
          | none => none
          | some (ds, S3) => some (d :: ds, S3)) else none
def cLc (src : Src) (t : Tg) (c : Gb) (f : G) (vs : List Nat) : G := fun ρ S => match src ρ S with
  | none => none
  | some (xs, w, S1) => match lcB t c f (still xs w) (wipeR ρ vs) xs S1 with
    | none => none
    | some (ds, S2) => some (.lst ds, S2)
/-- the data does not lie where a list is being made -/
theorem Ext.making {ι ι' : Nat → Addr} {N N' : Nat} {H H' : Hp} {D0 : Addr} {o : HO} (E : Ext ι N H ι' N' H') (hD : H D0 = none) : Ext ι N H ι' N' (upd H' D0 o) :=
  ⟨E.le, E.eqi, E.new, fun a u h hn => by rw [upd_ne (ne_of_none h hD)]; exact E.keep a u h hn, fun a u h => by rw [upd_ne (ne_of_none h hD)]; exact E.live a u h⟩
section
variable {K : KR} {ι : Nat → Addr} {S : Sto} {N : Nat} {H : Hp} {D0 : Addr} {o : HO}
mutual
theorem At.offD (hr : K.rs D0) (nr : ∀ m, m < N → ι m ≠ D0) (nt : ∀ vs, H D0 ≠ some (.tup vs)) (nf : ∀ a b, H D0 ≠ some (.frz a b)) : ∀ {d : D} {v : V}, At K ι N H d v → At K ι N (upd H D0 o) d v
  | _, _, .non => .non
  | _, _, .bl b => .bl b
  | _, _, .int i => .int i
  | _, _, .str x => .str x
  | _, _, .tup (a := a) h z l => .tup (by
      rcases h with (h | ⟨u, h⟩) | h
      · exact .inl (.inl (by rw [upd_ne (fun e => nt _ (e ▸ h))]; exact h))
      · exact .inl (.inr ⟨u, by rw [upd_ne (fun e => nf _ _ (e ▸ h))]; exact h⟩)
      · exact .inr h) z (AtL.offD hr nr nt nf l)
  | _, _, .lst h z l => .lst ⟨by rw [upd_ne (fun e => h.2.2 (by rw [e]; exact hr))]; exact h.1, h.2⟩ z (AtL.offD hr nr nt nf l)
  | _, _, .scr h z l => .scr (by
      rcases h with ⟨u, h⟩ | h
      · exact .inl ⟨u, by rw [upd_ne (fun e => nf _ _ (e ▸ h))]; exact h⟩
      · exact .inr h) z (AtL.offD hr nr nt nf l)
  | _, _, .ref h => .ref h
theorem AtL.offD (hr : K.rs D0) (nr : ∀ m, m < N → ι m ≠ D0) (nt : ∀ vs, H D0 ≠ some (.tup vs)) (nf : ∀ a b, H D0 ≠ some (.frz a b)) : ∀ {ds : List D} {vs : List V}, AtL K ι N H ds vs → AtL K ι N (upd H D0 o) ds vs
  | _, _, .nil => .nil
  | _, _, .cons h t => .cons (At.offD hr nr nt nf h) (AtL.offD hr nr nt nf t)
end
theorem Rel.offD (hr : K.rs D0) (nr : ∀ m, m < S.length → ι m ≠ D0) {xs : List V} (hl : H D0 = some (.lst xs)) (R : Rel K ι S H) : Rel K ι S (upd H D0 o) := by
  have nt : ∀ vs, H D0 ≠ some (.tup vs) := fun vs z => by rw [hl] at z; cases z
  have nf : ∀ a b, H D0 ≠ some (.frz a b) := fun a b z => by rw [hl] at z; cases z
  refine ⟨R.inj, fun n u e => ?_, fun a h => ?_⟩
  · have hn := (List.getElem?_eq_some_iff.mp e).1
    have := R.obj n u e
    cases u with
    | lst ds =>
      obtain ⟨vs, q1, q2, q3⟩ := this
      exact ⟨vs, by rw [upd_ne (nr n hn)]; exact q1, q2.offD hr nr nt nf, q3⟩
    | dct kvs =>
      obtain ⟨vs, q1, q2, q3⟩ := this
      exact ⟨vs, by rw [upd_ne (nr n hn)]; exact q1, Paired.mapP q2 fun _ _ z => ⟨z.1, z.2.offD hr nr nt nf⟩, q3⟩
  · by_cases e : a = D0
    · exact ⟨o, by rw [e, upd_same]⟩
    · obtain ⟨u, q⟩ := R.res a h
      exact ⟨u, by rw [upd_ne e]; exact q⟩
end
abbrev DTs (X : Cx) (ifs : List Expr) (f : Gb) : Prop := PTs X ifs (tT X.K f)
def cYes : Gb := fun _ S => some (true, S)
theorem PTs.imp {X : Cx} {e : List Expr} {t t' : TT} (h : PTs X e t) (i : ∀ σ H Q, t' σ H Q → t σ H Q) : PTs X e t' := ⟨fun pins s σ H Q I q => h.run pins s σ H Q I (i _ _ _ q)⟩
theorem dts_nil {X : Cx} : DTs X [] cYes := by
  refine PTs.imp pts_nil ?_
  rintro σ H Q ⟨rs, ι, ρ, S, d, S', R, En, hf, k⟩
  cases hf
  exact k _ _ Ext.refl R
theorem dts_one {X : Cx} {c : Expr} {f : Gb} (h : DT X c f) : DTs X [c] f := pts_one h
section
variable {X : Cx} {elt tg iter : Expr} {ifs : List Expr} {scope : Scope} {own : List (Str × Nat)} {pos : Pos} {src : Src} {t : Tg} {ix : List Nat} {ft : Gb} {fe : G}
theorem cLc_of {K : PySem.W.Frag} {vs : List Nat} (hix : ∀ i ∈ ix, i ∈ vs) : ∀ σ H Q, tE K (cLc src t ft fe vs) σ H Q → tLc (tI K src) (tG K t ix) (tT K ft) (tE K fe) vs σ H Q := by
  rintro σ H Q ⟨rs, ι, ρ, S, d, S', R, En, hf, kk⟩
  unfold cLc at hf
  split at hf
  · cases hf
  rename_i xs w S1 e1
  split at hf
  · cases hf
  rename_i ds S2 e2
  cases hf
  refine ⟨rs, ι, ρ, S, xs, w, S1, R, En, e1, fun ι1 H1 J E1 R1 st1 y D0 hD => ?_⟩
  have En1 := (En.mono R E1)
  -- the new list is reserved
  have hw : ∀ a o, H1 a = some o → (rs a ∨ a = D0) → rs a := fun a o q z => z.elim id fun e => by rw [e, hD] at q; cases q
  have R1' : Rel ⟨K, fun a => rs a ∨ a = D0⟩ ι1 S1 (upd H1 D0 (.lst [])) := by
    refine ⟨R1.inj, fun n u e => ((R1.obj n u e).wide hw).mono R1 (Ext.fresh hD) (by rw [upd_ne (R1.ne_none hD n (List.getElem?_eq_some_iff.mp e).1)]), fun a h => ?_⟩
    rcases h with h | h
    · obtain ⟨u, q⟩ := R1.res a h
      exact ⟨u, by rw [upd_ne (ne_of_none q hD)]; exact q⟩
    · exact ⟨_, by rw [h, upd_same]⟩
  have En1' : EnvAt ⟨K, fun a => rs a ∨ a = D0⟩ ι1 S1.length (upd H1 D0 (.lst [])) ρ σ := ⟨En1.1, fun i d e => let ⟨v, q, a⟩ := En1.2 i d e; ⟨v, q, (a.wide hw).mono R1 (Ext.fresh hD)⟩⟩
  have nd1 : ∀ m, m < S1.length → ι1 m ≠ D0 := R1.ne_none hD
  refine ⟨fun i m H2 => m = xs.length - i ∧ i ≤ xs.length ∧ ∃ ι2 S3 accd accv rest, Ext ι1 S1.length H1 ι2 S3.length H2 ∧ Rel ⟨K, fun a => rs a ∨ a = D0⟩ ι2 S3 H2 ∧ H2 D0 = some (.lst accv) ∧ (∀ m, m < S3.length → ι2 m ≠ D0) ∧
    AtL ⟨K, fun a => rs a ∨ a = D0⟩ ι2 S3.length H2 accd accv ∧ accv.length ≤ i ∧ still xs w S3 = true ∧ lcB t ft fe (still xs w) (wipeR ρ vs) (xs.drop i) S3 = some (rest, S') ∧ ds = accd ++ rest,
    ⟨xs.length, by simp, Nat.zero_le _, ι1, S1, [], [], ds, Ext.fresh hD, R1', upd_same, nd1, .nil, Nat.le_refl _, st1, e2, rfl⟩, ?_⟩
  rintro i m H2 ⟨rfl, hi, ι2, S3, accd, accv, rest, E2, R2, hD2, nd2, aL, al, st2, hf2, eds⟩
  by_cases hlt : i < xs.length
  · refine .inr ⟨y.go _ ι2 S3 H2 hw E2 R2 st2 i hlt, fun H3 => ∃ ι3 S4 accd accv rest, Ext ι1 S1.length H1 ι3 S4.length H3 ∧ Rel ⟨K, fun a => rs a ∨ a = D0⟩ ι3 S4 H3 ∧ H3 D0 = some (.lst accv) ∧ (∀ m, m < S4.length → ι3 m ≠ D0) ∧
        AtL ⟨K, fun a => rs a ∨ a = D0⟩ ι3 S4.length H3 accd accv ∧ accv.length ≤ i + 1 ∧ still xs w S4 = true ∧ lcB t ft fe (still xs w) (wipeR ρ vs) (xs.drop (i + 1)) S4 = some (rest, S') ∧ ds = accd ++ rest,
      fun H3 h3 => ⟨xs.length - (i + 1), by omega, rfl, by omega, h3⟩, fun x H3 hy => ?_⟩
    have hd : xs[i]? = some xs[i] := List.getElem?_eq_getElem hlt
    obtain ⟨E3, R3, a3⟩ := y.yld _ ι2 S3 H2 hw E2 R2 st2 i _ hd x H3 hy
    have hD3 : H3 D0 = some (.lst accv) := E3.keep _ _ hD2 nd2
    have En2 : EnvAt ⟨K, fun a => rs a ∨ a = D0⟩ ι2 S3.length H3 (wipeR ρ vs) (wipe σ vs) := by
      refine EnvAt.wipe ⟨En1.1, fun j dj e => ?_⟩ vs
      obtain ⟨v, q, a⟩ := En1.2 j dj e
      exact ⟨v, q, ((a.wide hw).mono R1 E2).mono R2 E3⟩
    rw [List.drop_eq_getElem_cons hlt] at hf2
    simp only [lcB] at hf2
    split at hf2
    · cases hf2
    rename_i ρ3 e3
    refine ⟨_, ι2, wipeR ρ vs, S3, _, ρ3, R3, En2, a3, e3, fun σ4 En4 hl4 hj4 => ⟨wipe_again hl4 fun j hj => hj4 j fun z => hj (hix j z), ?_⟩⟩
    have grow : ∀ {ι5 : Nat → Addr} {S5 : Sto} {H5 : Hp}, Ext ι2 S3.length H3 ι5 S5.length H5 → H5 D0 = some (.lst accv) ∧ (∀ m, m < S5.length → ι5 m ≠ D0) ∧ Ext ι1 S1.length H1 ι5 S5.length H5 := by
      intro ι5 S5 H5 E5
      refine ⟨E5.keep _ _ hD3 nd2, fun m hm z => ?_, (E2.trans E3).trans E5⟩
      by_cases hk : m < S3.length
      · rw [E5.eqi m hk] at z; exact nd2 m hk z
      · have q := E5.new m (Nat.le_of_not_lt hk) hm
        rw [z, hD3] at q; cases q
    cases e4 : ft ρ3 S3 with
    | none => rw [e4] at hf2; cases hf2
    | some r =>
      obtain ⟨c, S4⟩ := r
      refine tT.go R3 En4 e4 fun ι5 H5 E5 R5 En5 => ?_
      obtain ⟨hD5, nd5, E5'⟩ := grow E5
      rw [e4] at hf2
      cases c with
      | false =>
        rw [if_neg (by decide)]
        dsimp only at hf2
        split at hf2
        · rename_i st5
          exact ⟨ι5, S4, accd, accv, rest, E5', R5, hD5, nd5, (aL.mono R2 E3).mono R3 E5, by omega, st5, hf2, eds⟩
        · cases hf2
      | true =>
        rw [if_pos rfl]
        dsimp only at hf2
        cases e6 : fe ρ3 S4 with
        | none => rw [e6] at hf2; cases hf2
        | some r =>
          obtain ⟨d6, S6⟩ := r
          rw [e6] at hf2
          dsimp only at hf2
          split at hf2
          case isFalse => cases hf2
          rename_i st6
          split at hf2
          · cases hf2
          rename_i rest' S7 e7
          cases hf2
          refine tE.go R5 En5 e6 fun ι6 H6 v E6 R6 En6 a6 => ?_
          obtain ⟨hD6, nd6, E6'⟩ := grow (E5.trans E6)
          have nt : ∀ vs, H6 D0 ≠ some (.tup vs) := fun vs z => by rw [hD6] at z; cases z
          have nf : ∀ a b, H6 D0 ≠ some (.frz a b) := fun a b z => by rw [hD6] at z; cases z
          have aL6 := ((aL.mono R2 E3).mono R3 E5).mono R5 E6
          exact ⟨accv, hD6, by have := y.sz; omega, ι6, S6, accd ++ [d6], accv ++ [v], rest', E6'.making hD, R6.offD (Or.inr rfl) nd6 hD6, upd_same, nd6, (aL6.offD (Or.inr rfl) nd6 nt nf).append (.cons (a6.offD (Or.inr rfl) nd6 nt nf) .nil), by simp; omega, st6, e7, by rw [eds]; simp⟩
  · have e : i = xs.length := by omega
    subst e
    rw [List.drop_length] at hf2
    cases hf2
    rw [List.append_nil] at eds
    subst eds
    refine .inl ⟨y.stop _ ι2 _ H2 hw E2 R2 st2, kk ι2 H2 _ (E1.trans E2) ⟨R2.inj, fun n u e => (R2.obj n u e).wide (rs' := rs) fun _ _ _ z => Or.inl z, fun a h => R2.res a (Or.inl h)⟩ (.lst ⟨hD2, nd2, fun z => ?_⟩ (by have := y.sz; omega) (aL.wide (rs' := rs) fun _ _ _ z => Or.inl z))⟩
    obtain ⟨u, q⟩ := R1.res D0 z
    rw [hD] at q; cases q
theorem de_lc (hc : X.calm = true) (hN : X.N.Nodup) (hi : DI X tg iter src) (ok : BlkOk X.N X.env.scope scope own)
    (hg : ∀ (s : Shared) (H : Hp) (C : Addr) (cl : List (Str × Addr)) (fp : List Addr), DG (X.blk s H scope (compEnvC scope cl C X.env) fp) tg t ix) (ht : ∀ (s : Shared) (H : Hp) (C : Addr) (cl : List (Str × Addr)) (fp : List Addr), DTs (X.blk s H scope (compEnvC scope cl C X.env) fp) ifs ft)
    (he : ∀ (s : Shared) (H : Hp) (C : Addr) (cl : List (Str × Addr)) (fp : List Addr), DE (X.blk s H scope (compEnvC scope cl C X.env) fp) elt fe) (hix : ∀ i ∈ ix, i ∈ own.map (·.2) := by decide) (hs : ∀ x, foldedSetIterable iter X.env x = pure x := by intro _; rfl) :
    DE X (.ListComp elt [⟨tg, iter, ifs, 0⟩] scope pos) (cLc src t ft fe (own.map (·.2))) := PE.imp (pe_lc hc hN hi ok hg ht he hs) (cLc_of hix)
end
end FS
set_option Elab.async false
set_option linter.all false
set_option maxRecDepth 100000
set_option maxHeartbeats 4000000
namespace FS
open PySem PySem.Spec PyProof.Rows L2

section
variable {X : Cx} {pos : Pos} {e c : Expr} {st : Stmt} {rest : List Stmt} {f g h : G} {ft : Gb} {b b1 b2 : B}
def cNx : B := fun ρ S => some (.nx, ρ, S)
def cSeq (b1 b2 : B) : B := fun ρ S => match b1 ρ S with
  | some (.nx, ρ1, S1) => b2 ρ1 S1
  | r => r
theorem dss_nil : DSs X [] cNx := by
  refine PSs.imp pss_nil ?_
  rintro D' σ H ⟨rs, ι, ρ, S, fl, ρ', S', R, En, hf, k⟩
  cases hf
  exact k _ _ _ Ext.refl R En
theorem dss_cons (h1 : DS X st b1) (h2 : DSs X rest b2) : DSs X (st :: rest) (cSeq b1 b2) := by
  refine PSs.imp (pss_cons h1 h2) ?_
  rintro D' σ H ⟨rs, ι, ρ, S, fl, ρ', S', R, En, hf, k⟩
  unfold cSeq at hf
  split at hf
  · rename_i ρ1 S1 e1
    exact ⟨rs, ι, ρ, S, .nx, ρ1, S1, R, En, e1, fun ι1 σ1 H1 E1 R1 En1 => ⟨rs, ι1, ρ1, S1, fl, ρ', S', R1, En1, hf, k.from E1⟩⟩
  · rename_i hn
    refine ⟨rs, ι, ρ, S, fl, ρ', S', R, En, hf, ?_⟩
    cases fl with
    | nx => exact absurd hf (hn _ _)
    | rt d => exact k
    | bk => exact k
    | ct => exact k
theorem dss_one (h1 : DS X st b) : DSs X [st] b := pss_one h1
def cRet (f : G) : B := fun ρ S => match f ρ S with
  | some (d, S1) => some (.rt d, ρ, S1)
  | none => none
theorem ds_ret (he : DE X e f) : DS X (.Return (some e) pos) (cRet f) := by
  refine PS.imp (ps_ret he) ?_
  rintro D' σ H ⟨rs, ι, ρ, S, fl, ρ', S', R, En, hf, k⟩
  unfold cRet at hf
  split at hf
  · rename_i d S1 e1
    cases hf
    exact ⟨rs, ι, ρ, S, d, _, R, En, e1, k⟩
  · cases hf
def cRetN : B := fun ρ S => some (.rt .non, ρ, S)
theorem ds_retN : DS X (.Return none pos) cRetN := by
  refine PS.imp ps_retN ?_
  rintro D' σ H ⟨rs, ι, ρ, S, fl, ρ', S', R, En, hf, k⟩
  cases hf
  exact Post.same k R .non
def cDrop (f : G) : B := fun ρ S => match f ρ S with
  | some (_, S1) => some (.nx, ρ, S1)
  | none => none
theorem ds_expr (he : DE X e f) (hs : swapsWith e none pos.line X.env = pure false := by rfl) : DS X (.Expr e pos) (cDrop f) := by
  refine PS.imp (ps_expr he hs) ?_
  rintro D' σ H ⟨rs, ι, ρ, S, fl, ρ', S', R, En, hf, k⟩
  unfold cDrop at hf
  split at hf
  · rename_i d S1 e1
    cases hf
    exact tE.go R En e1 fun ι1 H1 v E1 R1 En1 a1 => k _ _ _ E1 R1 En1
  · cases hf
theorem ds_pass : DS X (.Pass pos) cNx := by
  refine PS.imp ps_pass ?_
  rintro D' σ H ⟨rs, ι, ρ, S, fl, ρ', S', R, En, hf, k⟩
  cases hf
  exact k _ _ _ Ext.refl R En
def cBk : B := fun ρ S => some (.bk, ρ, S)
def cCt : B := fun ρ S => some (.ct, ρ, S)
theorem ds_break : DS X (.Break pos) cBk := by
  refine PS.imp ps_break ?_
  rintro D' σ H ⟨rs, ι, ρ, S, fl, ρ', S', R, En, hf, k⟩
  cases hf
  exact k _ _ _ Ext.refl R En
theorem ds_continue : DS X (.Continue pos) cCt := by
  refine PS.imp ps_continue ?_
  rintro D' σ H ⟨rs, ι, ρ, S, fl, ρ', S', R, En, hf, k⟩
  cases hf
  exact k _ _ _ Ext.refl R En
theorem ds_doc {x j pos'} : DS X (.Expr (.Constant (.str x) j pos) pos') cNx := by
  refine PS.imp ps_doc ?_
  rintro D' σ H ⟨rs, ι, ρ, S, fl, ρ', S', R, En, hf, k⟩
  cases hf
  exact k _ _ _ Ext.refl R En
def cIfS (c : Gb) (b1 b2 : B) : B := fun ρ S => match c ρ S with
  | some (true, S1) => b1 ρ S1
  | some (false, S1) => b2 ρ S1
  | none => none
theorem ds_if {as bs : List Stmt} (hc : DT X c ft) (ha : DSs X as b1) (hb : DSs X bs b2) : DS X (.If c as bs pos) (cIfS ft b1 b2) := by
  refine PS.imp (ps_if hc ha hb) ?_
  rintro D' σ H ⟨rs, ι, ρ, S, fl, ρ', S', R, En, hf, k⟩
  unfold cIfS at hf
  split at hf
  · rename_i S1 e1
    refine tT.go R En e1 fun ι1 H1 E1 R1 En1 => ?_
    rw [if_pos rfl]
    exact ⟨rs, ι1, ρ, S1, fl, ρ', S', R1, En1, hf, k.from E1⟩
  · rename_i S1 e1
    refine tT.go R En e1 fun ι1 H1 E1 R1 En1 => ?_
    rw [if_neg (by decide)]
    exact ⟨rs, ι1, ρ, S1, fl, ρ', S', R1, En1, hf, k.from E1⟩
  · cases hf
def cSet (i : Nat) (f : G) : B := fun ρ S => match f ρ S with
  | some (d, S1) => some (.nx, ρ.set i (some d), S1)
  | none => none
theorem cSet_of {K : PySem.W.Frag} {i : Nat} {D' : Ends} {σ : L2.St} {H : Hp} (q : tS K (cSet i f) D' σ H) : tAsg (tE K f) (gName i) D' σ H := by
  obtain ⟨rs, ι, ρ, S, fl, ρ', S', R, En, hf, k⟩ := q
  unfold cSet at hf
  split at hf
  · rename_i d S1 e1
    cases hf
    exact tE.go R En e1 fun ι1 H1 v E1 R1 En1 a1 => k _ _ _ E1 R1 (En1.set a1)
  · cases hf
theorem ds_set (i : Nat) {x : Str} {pos' : Pos} (he : DE X e f) (hN : X.N.Nodup) (hi : X.N[i]? = some x) (hx : Loc X.env.scope x) (hs : swapsWith e (some (.Name x pos')) pos.line X.env = pure false := by rfl) (hf : X.fn x = true ∨ X.env.scope.names.lookup x = some .local := by first | exact .inl rfl | exact .inr rfl | assumption) :
    DS X (.Assign [.Name x pos'] e pos) (cSet i f) := PS.imp (ps_set hN hi hx he hs hf) fun _ _ _ q => cSet_of q
theorem ds_setLc (i : Nat) {y : Str} {py : Pos} {elt tg iter : Expr} {ifs : List Expr} {scope : Scope} {own : List (Str × Nat)} {spos : Pos} {src : Src} {t : Tg} {ix : List Nat} {fe : G} (hc : X.calm = true) (hN : X.N.Nodup) (hy : X.N[i]? = some y) (hyl : X.env.scope.names.lookup y = some .local)
    (hsw : swapsWith (.ListComp elt [⟨tg, iter, ifs, 0⟩] scope pos) (some (.Name y py)) spos.line X.env = pure true) (hi : DI X tg iter src) (ok : BlkOk X.N X.env.scope scope own)
    (hg : ∀ (s : Shared) (H : Hp) (C : Addr) (cl : List (Str × Addr)) (fp : List Addr), DG (X.blk s H scope (compEnvC scope cl C X.env) fp) tg t ix) (ht : ∀ (s : Shared) (H : Hp) (C : Addr) (cl : List (Str × Addr)) (fp : List Addr), DTs (X.blk s H scope (compEnvC scope cl C X.env) fp) ifs ft)
    (he : ∀ (s : Shared) (H : Hp) (C : Addr) (cl : List (Str × Addr)) (fp : List Addr), DE (X.blk s H scope (compEnvC scope cl C X.env) fp) elt fe) (hix : ∀ i ∈ ix, i ∈ own.map (·.2) := by decide) (hs : ∀ x, foldedSetIterable iter X.env x = pure x := by intro _; rfl) :
    DS X (.Assign [.Name y py] (.ListComp elt [⟨tg, iter, ifs, 0⟩] scope pos) spos) (cSet i (cLc src t ft fe (own.map (·.2)))) := by
  refine PS.imp (ps_setLc (te := tE X.K fe) (g := tG X.K t ix) (tt := tT X.K ft) hc hN hy hyl hsw hi ok hg ht he hs) fun D' σ H q => ?_
  exact cLc_of hix σ H _ (cSet_of q)
def cAsg (f : G) (t : Tg) : B := fun ρ S => match f ρ S with
  | some (d, S1) => match t d ρ with
    | some ρ1 => some (.nx, ρ1, S1)
    | none => none
  | none => none
theorem ds_asg {tg : Expr} {t : Tg} {ix : List Nat} (he : DE X e f) (hg : DG X tg t ix) (hs : swapsWithSole [tg] e pos.line X.env = pure false := by rfl) (hw : swappedStores [tg] e X.env = pure none := by rfl)
    (h1 : (assignEach [tg] X.env).map (·.2) = [assign tg X.env] := by rfl) : DS X (.Assign [tg] e pos) (cAsg f t) := by
  refine PS.imp (ps_asg he hg hs hw h1) ?_
  rintro D' σ H ⟨rs, ι, ρ, S, fl, ρ', S', R, En, hf, k⟩
  unfold cAsg at hf
  split at hf
  · rename_i d S1 e1
    split at hf
    · rename_i ρ1 e2
      cases hf
      exact tE.go R En e1 fun ι1 H1 v E1 R1 En1 a1 => ⟨rs, ι1, ρ, _, d, _, R1, En1, a1, e2, fun σ' En' _ _ => k _ _ _ E1 R1 En'⟩
    · cases hf
  · cases hf
def cPar (i j : Nat) (r : Gs) : B := fun ρ S => match r ρ S with
  | some ([x, y], S1) => some (.nx, (ρ.set i (some x)).set j (some y), S1)
  | _ => none
theorem ds_par (i j : Nat) {x y : Str} {a b : Expr} {fs : Gs} {px py pt : Pos} {kt k2 pt2} (hc : X.calm = true) (hN : X.N.Nodup) (hi : X.N[i]? = some x) (hj : X.N[j]? = some y) (hij : i ≠ j)
    (hx : X.env.scope.names.lookup x = some .local) (hy : X.env.scope.names.lookup y = some .local) (ha : DA X [a, b] fs)
    (hw : swappedStores [.Tuple [.Name x px, .Name y py] kt pt] (.Tuple [a, b] k2 pt2) X.env = pure (some [x, y]))
    (hs : swapsWithSole [.Tuple [.Name x px, .Name y py] kt pt] (.Tuple [a, b] k2 pt2) pos.line X.env = pure false := by rfl) :
    DS X (.Assign [.Tuple [.Name x px, .Name y py] kt pt] (.Tuple [a, b] k2 pt2) pos) (cPar i j fs) := by
  refine PS.imp (ps_par hc hN hi hj hij hx hy ha hw hs) ?_
  rintro D' σ H ⟨rs, ι, ρ, S, fl, ρ', S', R, En, hf, k⟩
  unfold cPar at hf
  split at hf
  · rename_i x y S1 e1
    cases hf
    refine tL.go R En e1 fun ι1 H1 vs E1 R1 En1 a1 => ?_
    cases a1 with
    | cons h1 t1 =>
      cases t1 with
      | cons h2 t2 =>
        cases t2
        exact ⟨_, _, rfl, k _ _ _ E1 R1 ((En1.set h1).set h2)⟩
  · cases hf

/-! ### match over written texts -/
def cCase (d : D) (x : Str) (b1 b2 : B) : B := match d with
  | .str y => if y = x then b1 else b2
  | _ => fun _ _ => none
structure DM (X : Cx) (cs : List MatchCase) (b : D → B) : Prop where
  run : ∀ (first : Bool) (pins : List (Addr × Obj)) (s : Shared) (σ : L2.St) (H : Hp) (D' : Ends) (v : V) (u : Value) (rs : Addr → Prop) (ι : Nat → Addr) (ρ : Rho) (S : Sto) (d : D) (fl : Flw) (ρ' : Rho) (S' : Sto), L2.Inv X pins σ H s → RelV v u →
    Rel ⟨X.K, rs⟩ ι S H → EnvAt ⟨X.K, rs⟩ ι S.length H ρ σ → At ⟨X.K, rs⟩ ι S.length H d v → b d ρ S = some (fl, ρ', S') → EndsP ⟨X.K, rs⟩ ι S H D' fl ρ' S' →
    wpAny (model X.prog X.w) X.A (matchCases cs X.env u first) (SP X pins D') X.xe s
theorem dm_nil : DM X [] (fun _ => cNx) := by
  refine ⟨fun first pins s σ H D' v u rs ι ρ S d fl ρ' S' I r R En a hf k => ?_⟩
  cases hf
  exact wpAny_matchCases_nil ⟨σ, H, I, k _ _ _ Ext.refl R En⟩
theorem dm_case {x : Str} {j : Nat} {p1 p2 : Pos} {body : List Stmt} {cs : List MatchCase} {b2 : D → B} (h1 : DSs X body b1) (h2 : DM X cs b2) :
    DM X (⟨.MatchValue (.Constant (.str x) j p1) p2, none, body⟩ :: cs) (fun d => cCase d x b1 (b2 d)) := by
  refine ⟨fun first pins s σ H D' v u rs ι ρ S d fl ρ' S' I r R En a hf k => ?_⟩
  unfold cCase at hf
  split at hf
  · rename_i y
    cases a
    obtain ⟨t, rfl⟩ := r
    apply wpAny_matchCases_cons
    apply wpAny_matchPattern_Value
    refine thn ((pe_str (X := X) (x := x) (j := j) (pos := p1)).run pins s σ H (fun w H1 => w = .str x ∧ H1 = H) I ⟨rfl, rfl⟩) ?_
    rintro w s1 ⟨v1, H1, I1, r1, rfl, rfl⟩
    obtain ⟨t1, rfl⟩ := r1
    refine thn (op_eq pins s1 σ H1 (V.str y) (V.str x) (.str y t) (.str x t1) (fun w H2 => w = .bl (decide (V.str y = V.str x)) ∧ H2 = H1) I1 (show RelV (V.str y) (.str y t) from ⟨t, rfl⟩) (show RelV (V.str x) (.str x t1) from ⟨t1, rfl⟩) ⟨rfl, rfl, rfl⟩) ?_
    rintro w2 s2 ⟨v2, H2, I2, r2, rfl, rfl⟩
    cases r2
    apply wpAny_truthy_bool
    by_cases hy : y = x
    · rw [if_pos hy] at hf
      rw [if_pos (decide_eq_true (by rw [hy]))]
      exact assignInOrder_nil (h1.run pins s2 σ H2 D' I2 ⟨rs, ι, ρ, S, fl, ρ', S', R, En, hf, k⟩)
    · rw [if_neg hy] at hf
      rw [if_neg (by rw [decide_eq_true_iff]; intro z; exact hy (V.str.inj z))]
      exact h2.run false pins s2 σ H2 D' _ _ rs ι ρ S _ fl ρ' S' I2 (show RelV (V.str y) (.str y t) from ⟨t, rfl⟩) R En (.str y) hf k
  · cases hf
theorem dm_else {p2 : Pos} {body : List Stmt} {cs : List MatchCase} (h1 : DSs X body b1) : DM X (⟨.MatchAs none none p2, none, body⟩ :: cs) (fun _ => b1) := by
  refine ⟨fun first pins s σ H D' v u rs ι ρ S d fl ρ' S' I r R En a hf k => ?_⟩
  apply wpAny_matchCases_cons
  apply wpAny_matchPattern_Capture
  exact assignInOrder_nil (h1.run pins s σ H D' I ⟨rs, ι, ρ, S, fl, ρ', S', R, En, hf, k⟩)
def cMatch (f : G) (b : D → B) : B := fun ρ S => match f ρ S with
  | some (d, S1) => b d ρ S1
  | none => none
theorem ds_match {cs : List MatchCase} {b : D → B} (he : DE X e f) (hm : DM X cs b) : DS X (.Match e cs pos) (cMatch f b) := by
  constructor
  rintro pins s σ H D' I ⟨rs, ι, ρ, S, fl, ρ', S', R, En, hf, k⟩
  unfold cMatch at hf
  split at hf
  · rename_i d S1 e1
    apply wpAny_Match
    have q : tE X.K f σ H (fun v H1 => ∃ ι1, Ext ι S.length H ι1 S1.length H1 ∧ Rel ⟨X.K, rs⟩ ι1 S1 H1 ∧ EnvAt ⟨X.K, rs⟩ ι1 S1.length H1 ρ σ ∧ At ⟨X.K, rs⟩ ι1 S1.length H1 d v) := tE.go R En e1 fun ι1 H1 v E1 R1 En1 a1 => ⟨ι1, E1, R1, En1, a1⟩
    refine thn (he.run pins s σ H _ I q) ?_
    rintro u s1 ⟨v, H1, I1, r1, ι1, E1, R1, En1, a1⟩
    exact hm.run true pins s1 σ H1 D' v u rs ι1 ρ S1 d fl ρ' S' I1 r1 R1 En1 a1 hf (k.from E1)
  · cases hf
end
end FS
set_option Elab.async false
set_option linter.all false
set_option maxRecDepth 100000
set_option maxHeartbeats 4000000
namespace FS
open PySem PySem.Spec PyProof.Rows L2

section
variable {X : Cx} {pos p2 : Pos} {a b c o e : Expr} {es : List Expr} {f g h : G} {fs gs : Gs}
/-! ### a slice with a step -/
def pickD {α : Type} (xs : List α) (lo hi st : Option Int) : List α := (sliceRange (sliceBounds lo hi st xs.length).1 (sliceBounds lo hi st xs.length).2.1 (sliceBounds lo hi st xs.length).2.2).filterMap fun i => xs[i]?
theorem AtL.picks {K : KR} {ι : Nat → Addr} {N : Nat} {H : Hp} {ds : List D} {vs : List V} (l : AtL K ι N H ds vs) : ∀ is : List Nat, AtL K ι N H (is.filterMap fun i => ds[i]?) (is.filterMap fun i => vs[i]?)
  | [] => .nil
  | i :: is => by
    have ih := l.picks is
    cases e : ds[i]? with
    | none =>
      have hv : vs[i]? = none := by
        rw [List.getElem?_eq_none_iff] at e ⊢
        rw [← l.length]; exact e
      rw [List.filterMap_cons, List.filterMap_cons, e, hv]
      exact ih
    | some d =>
      obtain ⟨v, q, w⟩ := l.get e
      rw [List.filterMap_cons, List.filterMap_cons, e, q]
      exact .cons w ih
theorem Vals.picks {vs : List V} {us : List Value} (r : Vals vs us) : ∀ is : List Nat, Vals (is.filterMap fun i => vs[i]?) (is.filterMap fun i => us[i]?)
  | [] => .nil
  | i :: is => by
    have ih := Vals.picks r is
    cases e : vs[i]? with
    | none =>
      rw [List.filterMap_cons, List.filterMap_cons, e, r.none_of e]
      exact ih
    | some d =>
      obtain ⟨v, q, w⟩ := r.get e
      rw [List.filterMap_cons, List.filterMap_cons, e, q]
      exact .cons w ih
def tSl3 (K : PySem.W.Frag) (te : TE) (tl th ts : TO) : TE := fun σ H Q => te σ H fun x H1 => tl σ H1 fun lo H2 => th σ H2 fun hi H3 => ts σ H3 fun st H4 => ∃ a xs, x = .ref a ∧ SqL K H4 a xs ∧ st ≠ some 0 ∧ (pickD xs lo hi st).length ≤ sizeLine ∧
  ∀ p, H4 p = none → Q (.ref p) (upd H4 p (.lst (pickD xs lo hi st)))
theorem pe_slice3 {te : TE} {lo hi : Option Expr} {st : Expr} {tl th ts : TO} (he : PE X a te) (hl : PO X lo tl) (hu : PO X hi th) (hst : PO X (some st) ts) : PE X (.Subscript a (.Slice lo hi (some st) p2) pos) (tSl3 X.K te tl th ts) := by
  constructor
  intro pins s σ H Q I h
  apply Subscript_
  apply thn (he.run pins s σ H _ I h)
  rintro v s1 ⟨x, H1, I1, r1, q1⟩
  apply wpAny_Slice
  apply thn (hl.run pins s1 σ H1 _ I1 q1)
  rintro vl s2 ⟨l, H2, I2, pl, q2⟩
  apply thn (hu.run pins s2 σ H2 _ I2 q2)
  rintro vu s3 ⟨u, H3, I3, pu, q3⟩
  apply thn (hst.run pins s3 σ H3 _ I3 q3)
  rintro vt s4 ⟨tt, H4, I4, pt, aa, xs, ex, hx, h0, hz, q4⟩
  subst ex
  cases r1
  have I5 : L2.Inv X pins σ H4 { s4 with heap := s4.heap.push { cls := .type "slice", data := .fields #[vl, vu, vt] } } := I4.kept (t' := s4.toks) fun b ob q => Heap.get?_push_of_some _ q
  obtain ⟨its, r, ht, hzl⟩ := I5.list hx
  have hlen := r.length
  have ep : slicePick its.toArray l u tt = (pickD its l u tt).toArray := by
    unfold slicePick pickD
    simp only [List.size_toArray, List.getElem?_toArray]
  have go : wpAny (model X.prog X.w) X.A (getItem (.ref aa) (.ref s4.heap.objs.size)) (EP X pins σ Q) X.xe { s4 with heap := s4.heap.push { cls := .type "slice", data := .fields #[vl, vu, vt] } } := by
    apply wpAny_getItem_list_slice ht.isList (Heap.IsSliceOf.new ..) pl pu pt h0 _ (by rw [List.size_toArray]; omega)
    rw [ep]
    refine ⟨.ref _, _, I5.laid (t' := s4.toks) (o := .lst (pickD xs l u tt)) (fun b ob q => Heap.get?_push_of_some _ q) (Nat.le_refl _) ?_, rfl, q4 _ (I5.hok.fresh (Nat.le_refl _))⟩
    refine ⟨hz, _, 0, ?_, Heap.get?_push_size _ rfl⟩
    have := Vals.picks r (sliceRange (sliceBounds l u tt xs.length).1 (sliceBounds l u tt xs.length).2.1 (sliceBounds l u tt xs.length).2.2)
    unfold pickD
    rw [← hlen]
    exact this
  exact tail_any (ops := [.ref aa, .ref s4.heap.objs.size]) ht.isList.typeIs slot_list_getitem.lookup go (by with_unfolding_all rfl)
def cSl3 (f : G) (l u t : Gp) : G := fun ρ S => match f ρ S with
  | none => none
  | some (x, S1) => match l ρ S1 with
    | none => none
    | some (lo, S2) => match u ρ S2 with
      | none => none
      | some (hi, S3) => match t ρ S3 with
        | none => none
        | some (st, S4) => match lsOf S4 x with
          | none => none
          | some xs => if st ≠ some 0 ∧ (pickD xs lo hi st).length ≤ sizeLine then some (.lst (pickD xs lo hi st), S4) else none
theorem de_slice3 {lo hi : Option Expr} {st : Expr} {l u t : Gp} (ha : DE X a f) (hl : DO X lo l) (hu : DO X hi u) (ht : DO X (some st) t) : DE X (.Subscript a (.Slice lo hi (some st) p2) pos) (cSl3 f l u t) := by
  refine PE.imp (pe_slice3 ha hl hu ht) ?_
  rintro σ H Q ⟨rs, ι, ρ, S, d, S', R, En, hf, k⟩
  unfold cSl3 at hf
  split at hf
  · cases hf
  · rename_i x S1 e1
    split at hf
    · cases hf
    · rename_i o1 S2 e2
      split at hf
      · cases hf
      · rename_i o2 S3 e3
        split at hf
        · cases hf
        · rename_i o3 S4 e4
          split at hf
          · cases hf
          · rename_i xs e5
            split at hf
            · rename_i hc
              cases hf
              refine tE.go R En e1 fun ι1 H1 v E1 R1 En1 a1 => ?_
              refine ⟨rs, ι1, ρ, S1, o1, S2, R1, En1, e2, fun ι2 H2 E2 R2 => ?_⟩
              have En2 := En1.mono R1 E2
              refine ⟨rs, ι2, ρ, S2, o2, _, R2, En2, e3, fun ι3 H3 E3 R3 => ?_⟩
              refine ⟨rs, ι3, ρ, S3, o3, _, R3, En2.mono R2 E3, e4, fun ι4 H4 E4 R4 => ?_⟩
              obtain ⟨p, vs, rfl, hq, z, l⟩ := lsOf_at R4 (((a1.mono R1 E2).mono R2 E3).mono R3 E4) e5
              have lp : AtL ⟨X.K, rs⟩ ι4 S'.length H4 (pickD xs o1 o2 o3) (pickD vs o1 o2 o3) := by
                unfold pickD
                rw [l.length]
                exact l.picks _
              have zl : (pickD vs o1 o2 o3).length ≤ sizeLine := by rw [← lp.length]; exact hc.2
              exact ⟨p, vs, rfl, hq, hc.1, zl, fun p hp => (k.from (((E1.trans E2).trans E3).trans E4)).lst R4 hp zl lp⟩
            · cases hf

/-! ### a star in a display -/
def cStar (f : G) (r : Gs) : Gs := fun ρ S => match f ρ S with
  | none => none
  | some (x, S1) => match sqOf S1 x with
    | none => none
    | some xs => match r ρ S1 with
      | none => none
      | some (ys, S2) => some (xs ++ ys, S2)
theorem da_star {sp : Pos} (he : DE X e f) (hr : DA X es fs) (hs : starEach (.Starred e sp :: es) X.env = (true, eval e X.env) :: starEach es X.env := by rfl) : DA X (.Starred e sp :: es) (cStar f fs) := by
  refine PA.imp (StX.pa_star he hr hs) ?_
  rintro σ H Q ⟨rs, ι, ρ, S, d, S', R, En, hf, k⟩
  unfold cStar at hf
  split at hf
  · cases hf
  · rename_i x S1 e1
    split at hf
    · cases hf
    · rename_i xs e2
      split at hf
      · cases hf
      · rename_i ys S2 e3
        cases hf
        refine tE.go R En e1 fun ι1 H1 v E1 R1 En1 a1 => ?_
        obtain ⟨p, vs, rfl, hq, z, l⟩ := sqOf_at R1 a1 e2
        exact ⟨p, vs, rfl, hq.symm, tL.go R1 En1 e3 fun ι2 H2 ws E2 R2 En2 a2 => k _ _ _ (E1.trans E2) R2 ((l.mono R1 E2).append a2)⟩

/-! ### texts put together -/
def cFmt (f : G) : G := fun ρ S => match f ρ S with
  | some (.str y, S1) => if y.length ≤ sizeLine then some (.str y, S1) else none
  | some (.int i, S1) => if i.natAbs.log2 < 1920 then some (.str (toString i), S1) else none
  | _ => none
theorem de_fmt (he : DE X e f) : DE X (.FormattedValue e (-1) none pos) (cFmt f) := by
  refine PE.imp (pe_fmt he) ?_
  rintro σ H Q ⟨rs, ι, ρ, S, d, S', R, En, hf, k⟩
  unfold cFmt at hf
  split at hf
  · rename_i y S1 e1
    split at hf
    · rename_i hz
      cases hf
      refine tE.go R En e1 fun ι1 H1 v E1 R1 En1 a1 => ?_
      cases a1
      exact .inl ⟨_, rfl, hz, k _ _ _ E1 R1 (.str _)⟩
    · cases hf
  · rename_i i S1 e1
    split at hf
    · rename_i hz
      cases hf
      refine tE.go R En e1 fun ι1 H1 v E1 R1 En1 a1 => ?_
      cases a1
      exact .inr ⟨_, rfl, hz, k _ _ _ E1 R1 (.str _)⟩
    · cases hf
  · cases hf
inductive DJ (X : Cx) : List Expr → List G → Prop where
  | nil : DJ X [] []
  | cons {e : Expr} {f : G} {es : List Expr} {fs : List G} (h : DE X e f) (r : DJ X es fs) : DJ X (e :: es) (f :: fs)
theorem DJ.pj {es : List Expr} {fs : List G} (h : DJ X es fs) : PJ X es (fs.map (tE X.K)) := by
  induction h with
  | nil => exact .nil
  | cons h r ih => exact .cons h ih
def cJs : List G → Str → Rho → Sto → Option (Str × Sto)
  | [], acc, _, S => some (acc, S)
  | f :: fs, acc, ρ, S => match f ρ S with
    | some (.str y, S1) => if (acc ++ y).length ≤ sizeLine then cJs fs (acc ++ y) ρ S1 else none
    | _ => none
def cJoined (fs : List G) : G := fun ρ S => match cJs fs Str.empty ρ S with
  | some (y, S1) => some (.str y, S1)
  | none => none
theorem cJs_of {K : PySem.W.Frag} {rs : Addr → Prop} : ∀ (fs : List G) (acc : Str) (ι : Nat → Addr) (ρ : Rho) (S S' : Sto) (y : Str) (σ : L2.St) (H : Hp) (Q : Str → Hp → Prop), Rel ⟨K, rs⟩ ι S H → EnvAt ⟨K, rs⟩ ι S.length H ρ σ → cJs fs acc ρ S = some (y, S') →
    (∀ ι' H', Ext ι S.length H ι' S'.length H' → Rel ⟨K, rs⟩ ι' S' H' → Q y H') → tJs (fs.map (tE K)) acc σ H Q
  | [], acc, ι, ρ, S, S', y, σ, H, Q, R, En, hf, k => by
    simp only [cJs] at hf
    cases hf
    exact k _ _ Ext.refl R
  | f :: fs, acc, ι, ρ, S, S', y, σ, H, Q, R, En, hf, k => by
    simp only [cJs] at hf
    split at hf
    · rename_i z S1 e1
      split at hf
      · rename_i hz
        refine tE.go R En e1 fun ι1 H1 v E1 R1 En1 a1 => ?_
        cases a1
        exact ⟨_, rfl, hz, cJs_of fs _ ι1 ρ S1 S' y σ H1 Q R1 En1 hf fun ι' H' E' R' => k ι' H' (E1.trans E') R'⟩
      · cases hf
    · cases hf
theorem de_joined {v1 v2 : Expr} {rest : List Expr} {fs : List G} (h : DJ X (v1 :: v2 :: rest) fs) : DE X (.JoinedStr (v1 :: v2 :: rest) pos) (cJoined fs) := by
  refine PE.imp (pe_joined h.pj) ?_
  rintro σ H Q ⟨rs, ι, ρ, S, d, S', R, En, hf, k⟩
  unfold cJoined at hf
  split at hf
  · rename_i y S1 e1
    cases hf
    exact cJs_of fs Str.empty ι ρ S _ y σ H _ R En e1 fun ι' H' E' R' => k ι' H' _ E' R' (.str y)
  · cases hf

/-! ### methods of lists and texts -/
abbrev OpM := Sto → D → List D → Option (D × Sto)
def cMeth (kd : Sto → D → Bool) (op : OpM) (f : G) (r : Gs) : G := fun ρ S => match f ρ S with
  | none => none
  | some (x, S1) => if kd S1 x = true then (match r ρ S1 with
    | none => none
    | some (ys, S2) => op S2 x ys) else none
def KindIs (K : PySem.W.Frag) (T : String) (kd : Sto → D → Bool) : Prop := ∀ (rs : Addr → Prop) (ι : Nat → Addr) (S : Sto) (H : Hp) (x : D) (v : V), Rel ⟨K, rs⟩ ι S H → At ⟨K, rs⟩ ι S.length H x v → kd S x = true → tyV K T v H
def ServesM (K : PySem.W.Frag) (r : V → List V → Hp → VK → Prop) (op : OpM) : Prop := ∀ (rs : Addr → Prop) (ι : Nat → Addr) (S : Sto) (H : Hp) (x : D) (v : V) (ys : List D) (vs : List V) (d : D) (S' : Sto) (Q : VK), Rel ⟨K, rs⟩ ι S H → At ⟨K, rs⟩ ι S.length H x v → AtL ⟨K, rs⟩ ι S.length H ys vs → op S x ys = some (d, S') → Post ⟨K, rs⟩ ι S H S' d Q → r v vs H Q
theorem cMeth_of {K : PySem.W.Frag} {T : String} {kd : Sto → D → Bool} {r : V → List V → Hp → VK → Prop} {op : OpM} (hk : KindIs K T kd) (hs : ServesM K r op) : ∀ σ H Q, tE K (cMeth kd op f fs) σ H Q → tBM K T r (tE K f) (tL K fs) σ H Q := by
  rintro σ H Q ⟨rs, ι, ρ, S, d, S', R, En, hf, k⟩
  unfold cMeth at hf
  split at hf
  · cases hf
  · rename_i x S1 e1
    split at hf
    · rename_i hkd
      split at hf
      · cases hf
      · rename_i ys S2 e2
        refine tE.go R En e1 fun ι1 H1 v E1 R1 En1 a1 => ⟨hk _ _ _ _ _ _ R1 a1 hkd, ?_⟩
        exact tL.go R1 En1 e2 fun ι2 H2 vs E2 R2 En2 a2 => hs _ _ _ _ _ _ _ _ _ _ _ R2 (a1.mono R1 E2) a2 hf (k.from (E1.trans E2))
    · cases hf
def isL (S : Sto) (x : D) : Bool := (lsOf S x).isSome
theorem isL_ok : KindIs X.K "list" isL := by
  intro rs ι S H x v R a h
  unfold isL at h
  obtain ⟨xs, e⟩ := Option.isSome_iff_exists.mp h
  obtain ⟨p, vs, rfl, hq, _, _⟩ := lsOf_at R a e
  exact .inl ⟨rfl, vs, hq⟩
def appendO : OpM := fun S x ys => match x, ys with
  | .ref n, [y] => match S[n]? with
    | some (.lst xs) => if xs.length < sizeLine then some (.non, S.set n (.lst (xs ++ [y]))) else none
    | _ => none
  | _, _ => none
theorem Post.wrote {K : KR} {ι : Nat → Addr} {S : Sto} {H : Hp} {n : Nat} {o : HO} {u : MO} {d : D} {v : V} {Q : VK} (k : Post K ι S H (S.set n u) d Q) (R : Rel K ι S H) (hn : n < S.length) (hu : MAt K ι S.length (upd H (ι n) o) (ι n) u) (ha : At K ι S.length (upd H (ι n) o) d v) : Q v (upd H (ι n) o) := by
  refine k ι _ v ?_ (R.written hn hu) ?_
  · rw [List.length_set]; exact Ext.written hn
  · rw [List.length_set]; exact ha
theorem appendO_ok : ServesM X.K rAppend appendO := by
  intro rs ι S H x v ys vs d S' Q R a1 a2 e k
  unfold appendO at e
  split at e
  · rename_i n y
    split at e
    · rename_i xs e1
      split at e
      · rename_i hz
        cases e
        cases a1 with
        | ref hn =>
          cases a2 with
          | cons h t =>
            cases t
            obtain ⟨ws, q, l, z⟩ := R.obj n _ e1
            have hl := l.length
            refine ⟨_, ws, _, rfl, rfl, q, by omega, k.wrote R hn ⟨_, upd_same, (l.append (.cons h .nil)).mono R (Ext.written hn), by rw [List.length_append, List.length_singleton]; omega⟩ .non⟩
      · cases e
    · cases e
  · cases e
theorem de_append {apos cpos : Pos} (ho : DE X o f) (ha : DA X (e :: es) fs) (hbase : attributeBase o "append" X.env (eval o X.env) = eval o X.env := by rfl)
    (hfew : ((backTo cpos (starEach (e :: es) X.env)).all (fun x => !x.1) && (backToKw cpos (keywordEach [] X.env)).all (fun x => x.1.isSome) && decide ((e :: es).length + ([] : List Keyword).length + (if ([] : List Keyword).isEmpty then 0 else 1) < 30)) = true := by rfl)
    (hline : (apos.endLine == cpos.line) = true := by rfl) (hs : starEach (e :: es) X.env = (false, eval e X.env) :: starEach es X.env := by rfl) (hplain : (backTo cpos (starEach es X.env)).any (·.1) = false := by rfl) :
    DE X (.Call (.Attribute o "append" apos) (e :: es) [] cpos) (cMeth isL appendO f fs) :=
  PE.imp (pe_bm PySem.F.plainAttrs_list PySem.F.slot_list_append PySem.F.type_list_append mt_append ho ha hbase hfew hline hs hplain) (cMeth_of isL_ok appendO_ok)
/-- extend by a list or a tuple -/
def rExtA (K : PySem.W.Frag) : V → List V → Hp → VK → Prop := fun x vs H Q => ∃ l b xs zs, x = .ref l ∧ vs = [.ref b] ∧ H l = some (.lst xs) ∧ (H b = some (.lst zs) ∨ SqT K H b zs) ∧ xs.length + zs.length ≤ sizeLine ∧ Q .non (upd H l (.lst (xs ++ zs)))
theorem ext_tup (l : Addr) (items : Array Value) (n : Nat) (b : Addr) (items2 : Array Value) (n2 : Nat) (dd : Option Addr) (sl : Array (Option Value)) (hs0 : ¬(!items.isEmpty && Builtin.List.listTooLong (items.size + items2.size)) = true) (hs1 : items.size ≤ sizeLine) (hs2 : items.size + items2.size ≤ sizeLine + 1) :
    Meets (Builtin.«list.extend» ⟨[.ref l, .ref b], []⟩) (fun _ R s => s.heap.get? l = some { cls := .type "list", dict := none, data := .seq items n, slots := #[] } ∧ s.heap.get? b = some { cls := .type "tuple", dict := dd, data := .seq items2 n2, slots := sl } ∧
      R (.ok (.ret Value.none)) { s with heap := s.heap.update l (Obj.mapSeq fun x => x ++ items2), toks := s.toks }) :=
  .of_wp fun prog w A R s h => by
    obtain ⟨hp, g, d, tk, os⟩ := s
    obtain ⟨hl, hb, h⟩ := h
    have f1 := PySem.AutoSeq1.idx_int
    have f2 := PySem.AutoSeq1.sub_tuple_tuple
    have f3 := PySem.AutoSeq1.sub_list_list
    have f4 := PySem.AutoSeq1.sub_tuple_list
    have f5 := PySem.AutoSeq1.sub_list_tuple
    have hz' : (items ++ items2).size ≤ sizeLine + 1 := by rw [Array.size_append]; omega
    wp_walk using (wpAny_updateSeq hl rfl (hz := hs1) (_hz' := hz')), PySem.AutoSeq1.wpAny_loadPart' hl, PySem.AutoSeq1.wpAny_loadPart' hb
    exact ⟨_, rfl, h⟩
theorem mt_extA : MtM X "list.extend" (rExtA X.K) := by
  intro pins s σ H x vs v us Q I rx rv h
  obtain ⟨l, b, xs, zs, rfl, rfl, hH, hB, hz, q⟩ := h
  rcases hB with hB | hB
  · exact mt_extend pins s σ H _ _ v us Q I rx rv ⟨l, b, xs, zs, rfl, rfl, hH, hB, hz, q⟩
  · cases rx
    obtain ⟨u, rfl, ru⟩ := Vals.one rv
    cases ru
    obtain ⟨z, its, n, r, hl, e⟩ := I.lstM hH
    obtain ⟨its2, r2, ⟨o2, e2, hc2, n2, hd2⟩, z2⟩ := I.tuple hB
    have hl2 := r2.length
    have hsz : its.toArray.size + its2.toArray.size ≤ sizeLine := by rw [List.size_toArray, List.size_toArray]; omega
    have hlong : ¬ (!its.toArray.isEmpty && Builtin.List.listTooLong (its.toArray.size + its2.toArray.size)) = true := by
      rw [notLongL hsz, Bool.and_false]
      exact Bool.false_ne_true
    obtain ⟨c2, d2, t2, s2⟩ := o2
    dsimp only at hc2 hd2
    subst hc2 hd2
    refine call_meets PySem.F.slot_list_extend ⟨_, e, rfl⟩ PySem.F.entry_list_extend (PySem.F.args_list_extend_2 _ _) (ext_tup l its.toArray n b its2.toArray n2 _ _ hlong (by rw [List.size_toArray]; omega) (by omega)) ⟨e, e2, ?_⟩
    exact ⟨.non, _, I.lset (its' := its ++ its2) hH e (by simp) (r.append r2) (by rw [List.length_append]; omega), rfl, q⟩
def extO : OpM := fun S x ys => match x, ys with
  | .ref n, [.tup zs] => match S[n]? with
    | some (.lst xs) => if xs.length + zs.length ≤ sizeLine then some (.non, S.set n (.lst (xs ++ zs))) else none
    | _ => none
  | .ref n, [y] => match S[n]?, lmOf S y with
    | some (.lst xs), some zs => if xs.length + zs.length ≤ sizeLine then some (.non, S.set n (.lst (xs ++ zs))) else none
    | _, _ => none
  | _, _ => none
theorem extO_ok : ServesM X.K (rExtA X.K) extO := by
  intro rs ι S H x v ys vs d S' Q R a1 a2 e k
  have fin : ∀ {n : Nat} {xs zs : List D} {p : Addr} {wz : List V}, n < S.length → S[n]? = some (.lst xs) → xs.length + zs.length ≤ sizeLine → AtL ⟨X.K, rs⟩ ι S.length H zs wz → (H p = some (.lst wz) ∨ SqT X.K H p wz) →
      Post ⟨X.K, rs⟩ ι S H (S.set n (.lst (xs ++ zs))) .non Q → rExtA X.K (.ref (ι n)) [.ref p] H Q := by
    intro n xs zs p wz hn e1 hz l2 hp k
    obtain ⟨ws, q, l, z⟩ := R.obj n _ e1
    have h1 := l.length
    have h2 := l2.length
    exact ⟨_, p, ws, wz, rfl, rfl, q, hp, by omega, k.wrote R hn ⟨_, upd_same, (l.append l2).mono R (Ext.written hn), by rw [List.length_append]; omega⟩ .non⟩
  unfold extO at e
  split at e
  · split at e
    · rename_i xs e1
      split at e
      · rename_i hz
        cases e
        cases a1 with
        | ref hn =>
          cases a2 with
          | cons h t =>
            cases t
            cases h with
            | tup q z l => exact fin hn e1 hz l (.inr q) k
      · cases e
    · cases e
  · split at e
    · rename_i xs zs e1 e2
      split at e
      · rename_i hz
        cases e
        cases a1 with
        | ref hn =>
          cases a2 with
          | cons h t =>
            cases t
            obtain ⟨p, wz, rfl, q, z, l⟩ := lmOf_at R h e2
            exact fin hn e1 hz l (.inl q) k
      · cases e
    · cases e
  · cases e
theorem de_extend {apos cpos : Pos} (ho : DE X o f) (ha : DA X (e :: es) fs) (hbase : attributeBase o "extend" X.env (eval o X.env) = eval o X.env := by rfl)
    (hfew : ((backTo cpos (starEach (e :: es) X.env)).all (fun x => !x.1) && (backToKw cpos (keywordEach [] X.env)).all (fun x => x.1.isSome) && decide ((e :: es).length + ([] : List Keyword).length + (if ([] : List Keyword).isEmpty then 0 else 1) < 30)) = true := by rfl)
    (hline : (apos.endLine == cpos.line) = true := by rfl) (hs : starEach (e :: es) X.env = (false, eval e X.env) :: starEach es X.env := by rfl) (hplain : (backTo cpos (starEach es X.env)).any (·.1) = false := by rfl) :
    DE X (.Call (.Attribute o "extend" apos) (e :: es) [] cpos) (cMeth isL extO f fs) :=
  PE.imp (pe_bm PySem.F.plainAttrs_list PySem.F.slot_list_extend PySem.F.type_list_extend mt_extA ho ha hbase hfew hline hs hplain) (cMeth_of isL_ok extO_ok)
def strsD : List D → Option (List Str)
  | [] => some []
  | .str i :: r => (strsD r).map (i :: ·)
  | _ :: _ => none
theorem strsD_at {K : KR} {ι : Nat → Addr} {N : Nat} {H : Hp} : ∀ {ds : List D} {vs : List V} {ns : List Str}, AtL K ι N H ds vs → strsD ds = some ns → vs = ns.map V.str
  | _, _, _, .nil, e => by simp only [strsD] at e; cases e; rfl
  | _, _, _, .cons (d := .str i) h t, e => by
    simp only [strsD] at e
    obtain ⟨r, e1, e2⟩ := Option.map_eq_some_iff.mp e
    subst e2
    cases h
    rw [strsD_at t e1]
    rfl
  | _, _, _, .cons (d := .non) _ _, e => by simp only [strsD] at e; cases e
  | _, _, _, .cons (d := .bl _) _ _, e => by simp only [strsD] at e; cases e
  | _, _, _, .cons (d := .int _) _ _, e => by simp only [strsD] at e; cases e
  | _, _, _, .cons (d := .tup _) _ _, e => by simp only [strsD] at e; cases e
  | _, _, _, .cons (d := .lst _) _ _, e => by simp only [strsD] at e; cases e
  | _, _, _, .cons (d := .scr _) _ _, e => by simp only [strsD] at e; cases e
  | _, _, _, .cons (d := .ref _) _ _, e => by simp only [strsD] at e; cases e
def isS (_ : Sto) (x : D) : Bool := match x with
  | .str _ => true
  | _ => false
theorem isS_ok : KindIs X.K "str" isS := by
  intro rs ι S H x v R a h
  unfold isS at h
  split at h
  · cases a; exact rfl
  · cases h
def joinO : OpM := fun S x ys => match x, ys with
  | .str a, [y] => match sqOf S y with
    | some zs => match strsD zs with
      | some ss => if (ss.map (·.length)).sum + ss.length * a.length ≤ 16777216 then some (.str (Txt.join a ss), S) else none
      | none => none
    | none => none
  | _, _ => none
theorem joinO_ok : ServesM X.K (fun x xs H Q => ∃ a p, ∃ ys : List Str, x = .str a ∧ xs = [.ref p] ∧ (SqL X.K H p (ys.map V.str) ∨ SqT X.K H p (ys.map V.str)) ∧
    (ys.map (·.length)).sum + ys.length * a.length ≤ 16777216 ∧ Q (.str (Txt.join a ys)) H) joinO := by
  intro rs ι S H x v ys vs d S' Q R a1 a2 e k
  unfold joinO at e
  split at e
  · split at e
    · rename_i zs e1
      split at e
      · rename_i ss e2
        split at e
        · rename_i hz
          cases e
          cases a1
          cases a2 with
          | cons h t =>
            cases t
            obtain ⟨p, ws, rfl, hq, z, l⟩ := sqOf_at R h e1
            rw [strsD_at l e2] at hq
            exact ⟨_, p, ss, rfl, rfl, hq, hz, Post.same k R (.str _)⟩
        · cases e
      · cases e
    · cases e
  · cases e
theorem de_join {apos cpos : Pos} (ho : DE X o f) (ha : DA X (e :: es) fs) (hbase : attributeBase o "join" X.env (eval o X.env) = eval o X.env := by rfl)
    (hfew : ((backTo cpos (starEach (e :: es) X.env)).all (fun x => !x.1) && (backToKw cpos (keywordEach [] X.env)).all (fun x => x.1.isSome) && decide ((e :: es).length + ([] : List Keyword).length + (if ([] : List Keyword).isEmpty then 0 else 1) < 30)) = true := by rfl)
    (hline : (apos.endLine == cpos.line) = true := by rfl) (hs : starEach (e :: es) X.env = (false, eval e X.env) :: starEach es X.env := by rfl) (hplain : (backTo cpos (starEach es X.env)).any (·.1) = false := by rfl) :
    DE X (.Call (.Attribute o "join" apos) (e :: es) [] cpos) (cMeth isS joinO f fs) :=
  PE.imp (pe_bm PySem.F.plainAttrs_str PySem.F.slot_str_join PySem.F.type_str_join mt_join ho ha hbase hfew hline hs hplain) (cMeth_of isS_ok joinO_ok)
end
end FS
set_option Elab.async false
set_option linter.all false
set_option maxRecDepth 100000
set_option maxHeartbeats 4000000
namespace FS
open PySem PySem.Spec PyProof.Rows L2

def keyD : D → Option Key
  | .int i => some (.inl i)
  | .str x => some (.inr x)
  | _ => none
def valD (kvs : List (Key × D)) (k : Key) : Option D := (kvs.find? fun kv => decide (kv.1 = k)).map (·.2)
def putD (kvs : List (Key × D)) (k : Key) (v : D) : List (Key × D) :=
  if (kvs.any fun kv => decide (kv.1 = k)) = true then kvs.map (fun kv => if kv.1 = k then (kv.1, v) else kv) else kvs ++ [(k, v)]
section
variable {K : KR} {ι : Nat → Addr} {S : Sto} {N : Nat} {H : Hp}
theorem keyD_at {d : D} {v : V} {k : Key} (a : At K ι N H d v) (e : keyD d = some k) : v = kV k := by
  cases a <;> simp only [keyD] at e <;> first
    | (cases e; rfl)
    | cases e
theorem KAt.val {k : Key} : ∀ {kvs : List (Key × D)} {kws : List (Key × V)}, KAt K ι N H kvs kws → (valD kvs k = none → valV kws k = none) ∧ ∀ d, valD kvs k = some d → ∃ v, valV kws k = some v ∧ At K ι N H d v
  | _, _, .nil => ⟨fun _ => rfl, fun _ e => by simp [valD] at e⟩
  | _, _, .cons (a := p) (b := q) h t => by
    have ih := KAt.val (k := k) t
    by_cases e : p.1 = k
    · have e2 : q.1 = k := by rw [← h.1]; exact e
      rw [valV_pos e2]
      refine ⟨fun z => ?_, fun d z => ?_⟩
      · simp [valD, List.find?_cons, e] at z
      · simp [valD, List.find?_cons, e] at z
        rw [← z]
        exact ⟨_, rfl, h.2⟩
    · have e2 : ¬ q.1 = k := by rw [← h.1]; exact e
      rw [valV_neg e2]
      have q : ∀ r : List (Key × D), valD (p :: r) k = valD r k := fun r => by simp [valD, List.find?_cons, e]
      rw [q]
      exact ih
theorem KAt.length : ∀ {kvs : List (Key × D)} {kws : List (Key × V)}, KAt K ι N H kvs kws → kvs.length = kws.length
  | _, _, .nil => rfl
  | _, _, .cons _ t => by simp [KAt.length t]
theorem KAt.anyK {k : Key} : ∀ {kvs : List (Key × D)} {kws : List (Key × V)}, KAt K ι N H kvs kws → (kvs.any fun kv => decide (kv.1 = k)) = (kws.any fun kv => decide (kv.1 = k))
  | _, _, .nil => rfl
  | _, _, .cons (a := p) (b := q) h t => by
    rw [List.any_cons, List.any_cons, KAt.anyK t, h.1]
theorem KAt.mapK {k : Key} {d : D} {v : V} (a : At K ι N H d v) : ∀ {kvs : List (Key × D)} {kws : List (Key × V)}, KAt K ι N H kvs kws → KAt K ι N H (kvs.map fun kv => if kv.1 = k then (kv.1, d) else kv) (kws.map fun kv => if kv.1 = k then (kv.1, v) else kv)
  | _, _, .nil => .nil
  | _, _, .cons (a := p) (b := q) h t => by
    refine .cons ?_ (KAt.mapK a t)
    dsimp only
    by_cases e : p.1 = k
    · rw [if_pos e, if_pos (by rw [← h.1]; exact e)]
      exact ⟨h.1, a⟩
    · rw [if_neg e, if_neg (by rw [← h.1]; exact e)]
      exact h
theorem KAt.app : ∀ {kvs ls : List (Key × D)} {kws lws : List (Key × V)}, KAt K ι N H kvs kws → KAt K ι N H ls lws → KAt K ι N H (kvs ++ ls) (kws ++ lws)
  | _, _, _, _, .nil, s => s
  | _, _, _, _, .cons h t, s => .cons h (KAt.app t s)
theorem KAt.put {k : Key} {d : D} {v : V} {kvs : List (Key × D)} {kws : List (Key × V)} (h : KAt K ι N H kvs kws) (a : At K ι N H d v) : KAt K ι N H (putD kvs k d) (putK kws k v) := by
  unfold putD putK
  rw [h.anyK (k := k)]
  split
  · exact h.mapK a
  · exact h.app (.cons ⟨rfl, a⟩ .nil)
theorem length_putD (kvs : List (Key × D)) (k : Key) (d : D) : (putD kvs k d).length ≤ kvs.length + 1 := by
  unfold putD
  split <;> simp
end
section
variable {k : PySem.W.Frag} {rs : Addr → Prop} {ι : Nat → Addr} {N : Nat} {H : Hp} {p : Addr}
mutual
theorem At.grown : ∀ {d : D} {v : V}, At ⟨k, fun a => rs a ∨ a = p⟩ ι N H d v → At ⟨k, rs⟩ (bump ι N p) (N + 1) H d v
  | _, _, .non => .non
  | _, _, .bl b => .bl b
  | _, _, .int i => .int i
  | _, _, .str x => .str x
  | _, _, .tup h z l => .tup h z (AtL.grown l)
  | _, _, .lst h z l => .lst ⟨h.1, fun m hm e => by
      by_cases hk : m < N
      · rw [bump_lt hk] at e; exact h.2.1 m hk e
      · rw [show m = N by omega, bump_at] at e; exact h.2.2 (Or.inr e.symm), fun z => h.2.2 (Or.inl z)⟩ z (AtL.grown l)
  | _, _, .scr h z l => .scr h z (AtL.grown l)
  | _, _, .ref h => by
    have q : At ⟨k, rs⟩ (bump ι N p) (N + 1) H _ _ := .ref (Nat.lt_succ_of_lt h)
    rw [bump_lt h] at q
    exact q
theorem AtL.grown : ∀ {ds : List D} {vs : List V}, AtL ⟨k, fun a => rs a ∨ a = p⟩ ι N H ds vs → AtL ⟨k, rs⟩ (bump ι N p) (N + 1) H ds vs
  | _, _, .nil => .nil
  | _, _, .cons h t => .cons (At.grown h) (AtL.grown t)
end
end
section
variable {X : Cx} {o i e d2 value : Expr} {pos pos' : Pos} {f g h : G}
/-- d[k] -/
def cDget (f g : G) : G := fun ρ S => match f ρ S with
  | some (.ref n, S1) => match g ρ S1 with
    | some (y, S2) => match S2[n]?, keyD y with
      | some (.dct kvs), some k => match valD kvs k with
        | some d => some (d, S2)
        | none => none
      | _, _ => none
    | none => none
  | _ => none
theorem de_dget {k : Nat} (hr : Room k X.A) (ho : DE X o f) (hi : DE X i g) (hs : NoSl i := by intro _ _; rfl) : DE X (.Subscript o i pos) (cDget f g) := by
  refine PE.imp (pe_dget (hu_of hr) ho hi hs) ?_
  rintro σ H Q ⟨rs, ι, ρ, S, d, S', R, En, hf, k⟩
  unfold cDget at hf
  split at hf
  · rename_i n S1 e1
    split at hf
    · rename_i y S2 e2
      split at hf
      · rename_i kvs kk e3 e4
        split at hf
        · rename_i d1 e5
          cases hf
          refine tE.go R En e1 fun ι1 H1 v E1 R1 En1 a1 => ?_
          refine tE.go R1 En1 e2 fun ι2 H2 u E2 R2 En2 a2 => ?_
          cases a1 with
          | ref hn =>
            obtain ⟨kws, q, l, z⟩ := R2.obj n _ e3
            obtain ⟨w, q2, aw⟩ := l.val.2 _ e5
            rw [keyD_at a2 e4]
            refine ⟨_, w, rfl, ?_, k _ _ _ (E1.trans E2) R2 aw⟩
            rw [← E2.eqi n hn, ← q2]
            exact .k q
        · cases hf
      · cases hf
    · cases hf
  · cases hf
/-- d.get(k, x) -/
def cDget2 (f g h : G) : G := fun ρ S => match f ρ S with
  | some (.ref n, S1) => match S1[n]? with
    | some (.dct _) => match g ρ S1 with
      | some (y, S2) => match h ρ S2 with
        | some (z, S3) => match S3[n]?, keyD y with
          | some (.dct kvs), some k => some ((valD kvs k).getD z, S3)
          | _, _ => none
        | none => none
      | none => none
    | _ => none
  | _ => none
theorem de_dget2 {k : Nat} {apos cpos : Pos} (hr : Room k X.A) (ho : DE X o f) (he : DE X e g) (hf : DE X d2 h) (m : M2 X o "get" apos e d2 cpos := by exact ⟨rfl, rfl, rfl, rfl⟩) : DE X (.Call (.Attribute o "get" apos) [e, d2] [] cpos) (cDget2 f g h) := by
  refine PE.imp (pe_dget2 (hu_of hr) ho he hf m) ?_
  rintro σ H Q ⟨rs, ι, ρ, S, d, S', R, En, hf, k⟩
  unfold cDget2 at hf
  split at hf
  · rename_i n S1 e1
    split at hf
    · rename_i kvs0 e0
      split at hf
      · rename_i y S2 e2
        split at hf
        · rename_i z S3 e3
          split at hf
          · rename_i kvs kk e4 e5
            cases hf
            refine tE.go R En e1 fun ι1 H1 v E1 R1 En1 a1 => ?_
            cases a1 with
            | ref hn =>
              obtain ⟨kw0, q0, _, _⟩ := R1.obj n _ e0
              refine ⟨_, rfl, .inl ⟨kw0, .inl q0⟩, ?_⟩
              refine tE.go R1 En1 e2 fun ι2 H2 u E2 R2 En2 a2 => ?_
              refine tE.go R2 En2 e3 fun ι3 H3 w E3 R3 En3 a3 => ?_
              obtain ⟨kws, q, l, zz⟩ := R3.obj n _ e4
              rw [keyD_at a2 e5]
              have ea : ι1 n = ι3 n := ((E2.trans E3).eqi n hn).symm
              rw [ea]
              refine ⟨valV kws kk, .k q, k _ _ _ ((E1.trans E2).trans E3) R3 ?_⟩
              cases e6 : valD kvs kk with
              | none => rw [l.val.1 e6]; exact a3
              | some d6 =>
                obtain ⟨w6, q6, a6⟩ := l.val.2 _ e6
                rw [q6]
                exact a6
          · cases hf
        · cases hf
      · cases hf
    · cases hf
  · cases hf
/-- d[k] = v -/
def cDput (f g h : G) : B := fun ρ S => match h ρ S with
  | some (v, S1) => match f ρ S1 with
    | some (.ref n, S2) => match g ρ S2 with
      | some (y, S3) => match S3[n]?, keyD y with
        | some (.dct kvs), some k => if kvs.length < sizeLine then some (.nx, ρ, S3.set n (.dct (putD kvs k v))) else none
        | _, _ => none
      | none => none
    | _ => none
  | none => none
theorem ds_dput {k : Nat} (hr : Room k X.A) (ho : DE X o f) (hi : DE X i g) (hv : DE X value h) (hs : swapsWith value (some (.Subscript o i pos')) pos.line X.env = pure false := by rfl) : DS X (.Assign [.Subscript o i pos'] value pos) (cDput f g h) := by
  refine PS.imp (ps_dput (hu_of hr) ho hi hv hs) ?_
  rintro D' σ H ⟨rs, ι, ρ, S, fl, ρ', S', R, En, hf, k⟩
  unfold cDput at hf
  split at hf
  · rename_i v0 S1 e1
    split at hf
    · rename_i n S2 e2
      split at hf
      · rename_i y S3 e3
        split at hf
        · rename_i kvs kk e4 e5
          split at hf
          · rename_i hz
            cases hf
            refine tE.go R En e1 fun ι1 H1 v E1 R1 En1 a1 => ?_
            refine tE.go R1 En1 e2 fun ι2 H2 u E2 R2 En2 a2 => ?_
            refine tE.go R2 En2 e3 fun ι3 H3 w E3 R3 En3 a3 => ?_
            cases a2 with
            | ref hn =>
              obtain ⟨kws, q, l, z⟩ := R3.obj n _ e4
              have hl := l.length
              have hn3 : n < S3.length := Nat.lt_of_lt_of_le hn E3.le
              rw [keyD_at a3 e5, ← E3.eqi n hn]
              have av := (a1.mono R1 E2).mono R2 E3
              refine ⟨_, _, rfl, .k q (by omega), k ι3 σ _ ?_ ?_ ?_⟩
              · rw [List.length_set]; exact ((E1.trans E2).trans E3).trans (Ext.written hn3)
              · refine R3.written hn3 ⟨_, upd_same, ((l.put av).mono R3 (Ext.written hn3)), ?_⟩
                have := length_putK kws kk v
                omega
              · rw [List.length_set]; exact En3.mono R3 (Ext.written hn3)
          · cases hf
        · cases hf
      · cases hf
    · cases hf
  · cases hf
/-- {} -/
def cDnew : G := fun _ S => some (.ref S.length, S ++ [.dct []])
theorem de_dnew : DE X (.Dict [] [] pos) cDnew := by
  refine PE.imp pe_dnewK ?_
  rintro σ H Q ⟨rs, ι, ρ, S, d, S', R, En, hf, k⟩
  cases hf
  exact fun p hp => Post.newD k R hp (Nat.zero_le _) .nil
/-- {'a': x, ..} -/
def cPairs : List (G × G) → Rho → Sto → Option (List (Key × D) × Sto)
  | [], _, S => some ([], S)
  | (f, g) :: r, ρ, S => match f ρ S with
    | none => none
    | some (x, S1) => match g ρ S1 with
      | none => none
      | some (y, S2) => match keyD x, cPairs r ρ S2 with
        | some k, some (kvs, S3) => some ((k, y) :: kvs, S3)
        | _, _ => none
def mergeD (kvs : List (Key × D)) : List (Key × D) := kvs.foldl (fun acc kv => putD acc kv.1 kv.2) []
def cDisp (ps : List (G × G)) : G := fun ρ S => match cPairs ps ρ S with
  | some (kvs, S1) => if kvs.length ≤ 15 then some (.ref S1.length, S1 ++ [.dct (mergeD kvs)]) else none
  | none => none
inductive DP (X : Cx) (pos : Pos) : List (Option Expr) → List Expr → List (G × G) → Prop where
  | nil : DP X pos [] [] []
  | cons {k v : Expr} {ks : List (Option Expr)} {vs : List Expr} {f g : G} {ps : List (G × G)} (hk : DE X k f) (hv : DE X v g) (r : DP X pos ks vs ps) : DP X pos (some k :: ks) (v :: vs) ((f, g) :: ps)
theorem DP.pps {ks : List (Option Expr)} {vs : List Expr} {ps : List (G × G)} (h : DP X pos ks vs ps) : PPs X pos ks vs (ps.map fun p => (tE X.K p.1, tE X.K p.2)) := by
  induction h with
  | nil => exact pps_nil
  | cons hk hv r ih => exact pps_cons hk hv ih
theorem cPairs_of {K : PySem.W.Frag} {rs : Addr → Prop} : ∀ (ps : List (G × G)) (ι : Nat → Addr) (ρ : Rho) (S S' : Sto) (kvs : List (Key × D)) (σ : L2.St) (H : Hp) (Q : List (V × V) → Hp → Prop), Rel ⟨K, rs⟩ ι S H → EnvAt ⟨K, rs⟩ ι S.length H ρ σ → cPairs ps ρ S = some (kvs, S') →
    (∀ ι' H' kws, Ext ι S.length H ι' S'.length H' → Rel ⟨K, rs⟩ ι' S' H' → KAt ⟨K, rs⟩ ι' S'.length H' kvs kws → Q (kws.map fun kv => (kV kv.1, kv.2)) H') → tPairs (ps.map fun p => (tE K p.1, tE K p.2)) σ H Q
  | [], ι, ρ, S, S', kvs, σ, H, Q, R, En, hf, k => by
    simp only [cPairs] at hf
    cases hf
    exact k ι H [] Ext.refl R .nil
  | (f, g) :: ps, ι, ρ, S, S', kvs, σ, H, Q, R, En, hf, k => by
    simp only [cPairs] at hf
    split at hf
    · cases hf
    · rename_i x S1 e1
      split at hf
      · cases hf
      · rename_i y S2 e2
        split at hf
        · rename_i kk r S3 e3 e4
          cases hf
          refine tE.go R En e1 fun ι1 H1 v E1 R1 En1 a1 => ?_
          refine tE.go R1 En1 e2 fun ι2 H2 u E2 R2 En2 a2 => ?_
          refine cPairs_of ps ι2 ρ S2 _ _ σ H2 _ R2 En2 e4 fun ι3 H3 kws E3 R3 l => ?_
          have := k ι3 H3 ((kk, u) :: kws) ((E1.trans E2).trans E3) R3 (.cons ⟨rfl, a2.mono R2 E3⟩ l)
          rw [keyD_at a1 e3]
          exact this
        · cases hf
theorem KAt.merge {K : KR} {ι : Nat → Addr} {N : Nat} {H : Hp} : ∀ {kvs : List (Key × D)} {kws : List (Key × V)} {acc : List (Key × D)} {acw : List (Key × V)}, KAt K ι N H kvs kws → KAt K ι N H acc acw →
    KAt K ι N H (kvs.foldl (fun acc kv => putD acc kv.1 kv.2) acc) (mergeK acw kws)
  | _, _, _, _, .nil, h => h
  | _, _, acc, acw, .cons (a := p) (b := q) h t, ha => by
    have := KAt.merge t (ha.put (k := p.1) h.2)
    show KAt K ι N H (List.foldl _ (putD acc p.1 p.2) _) (mergeK (putK acw q.1 q.2) _)
    rw [← h.1]
    exact this
theorem de_disp {keys : List (Option Expr)} {values : List Expr} {ps : List (G × G)} (h : DP X pos keys values ps) (hall : keys.all (·.isSome) = true := by rfl) (hl : keys.length = values.length := by rfl) (h0 : keys ≠ [] := by exact fun z => by cases z) (h15 : keys.length ≤ 15 := by decide) :
    DE X (.Dict keys values pos) (cDisp ps) := by
  refine PE.imp (pe_disp h.pps hall hl h0 h15) ?_
  rintro σ H Q ⟨rs, ι, ρ, S, d, S', R, En, hf, k⟩
  unfold cDisp at hf
  split at hf
  · rename_i kvs S1 e1
    split at hf
    · rename_i hz
      cases hf
      intro p hp
      have hw : ∀ a o, H a = some o → (rs a ∨ a = p) → rs a := fun a o q z => z.elim id fun e => by rw [e, hp] at q; cases q
      have R0 : Rel ⟨X.K, fun a => rs a ∨ a = p⟩ ι S (upd H p (.dK [])) := by
        refine ⟨R.inj, fun n u e => ((R.obj n u e).wide hw).mono R (Ext.fresh hp) (by rw [upd_ne (R.ne_none hp n (List.getElem?_eq_some_iff.mp e).1)]), fun a h => ?_⟩
        rcases h with h | h
        · obtain ⟨u, q⟩ := R.res a h
          exact ⟨u, by rw [upd_ne (ne_of_none q hp)]; exact q⟩
        · exact ⟨_, by rw [h, upd_same]⟩
      have En0 : EnvAt ⟨X.K, fun a => rs a ∨ a = p⟩ ι S.length (upd H p (.dK [])) ρ σ := ⟨En.1, fun i d e => let ⟨v, q, a⟩ := En.2 i d e; ⟨v, q, (a.wide hw).mono R (Ext.fresh hp)⟩⟩
      refine cPairs_of ps ι ρ S S1 kvs σ _ _ R0 En0 e1 fun ι1 H1 kws E1 R1 l => ?_
      have np : ∀ m, m < S.length → ι m ≠ p := R.ne_none hp
      have hp1 : H1 p = some (.dK []) := E1.keep p _ upd_same np
      have nd1 : ∀ m, m < S1.length → ι1 m ≠ p := fun m hm z => by
        by_cases hk : m < S.length
        · rw [E1.eqi m hk] at z; exact np m hk z
        · have q := E1.new m (Nat.le_of_not_lt hk) hm
          rw [z, upd_same] at q; cases q
      have nt : ∀ vs, H1 p ≠ some (.tup vs) := fun vs z => by rw [hp1] at z; cases z
      have nf : ∀ a b, H1 p ≠ some (.frz a b) := fun a b z => by rw [hp1] at z; cases z
      have hl2 := l.length
      refine ⟨hp1, kws, rfl, by omega, ?_⟩
      -- the dict joins the store
      have hlen : (S1 ++ [MO.dct (mergeD kvs)]).length = S1.length + 1 := by simp
      have Ea : Ext ι S.length H (bump ι1 S1.length p) (S1.length + 1) (upd H1 p (.dK (mergeK [] kws))) := by
        refine ⟨Nat.le_succ_of_le E1.le, fun m hm => by rw [bump_lt (Nat.lt_of_lt_of_le hm E1.le)]; exact E1.eqi m hm, fun m h1 h2 => ?_, fun a o h hn => ?_, fun a o h => ?_⟩
        · by_cases hm : m < S1.length
          · rw [bump_lt hm]
            have q := E1.new m h1 hm
            rw [upd_ne (nd1 m hm)] at q
            exact q
          · rw [show m = S1.length by omega, bump_at]; exact hp
        · rw [upd_ne (ne_of_none h hp)]
          exact E1.keep a o (by rw [upd_ne (ne_of_none h hp)]; exact h) hn
        · rw [upd_ne (ne_of_none h hp)]
          exact E1.live a o (by rw [upd_ne (ne_of_none h hp)]; exact h)
      have off : ∀ {d : D} {v : V}, At ⟨X.K, fun a => rs a ∨ a = p⟩ ι1 S1.length H1 d v → At ⟨X.K, rs⟩ (bump ι1 S1.length p) (S1.length + 1) (upd H1 p (.dK (mergeK [] kws))) d v :=
        fun a => At.grown (a.offD (Or.inr rfl) nd1 nt nf)
      have offL : ∀ {d : List D} {v : List V}, AtL ⟨X.K, fun a => rs a ∨ a = p⟩ ι1 S1.length H1 d v → AtL ⟨X.K, rs⟩ (bump ι1 S1.length p) (S1.length + 1) (upd H1 p (.dK (mergeK [] kws))) d v :=
        fun a => AtL.grown (a.offD (Or.inr rfl) nd1 nt nf)
      have offK : ∀ {ks : List (Key × D)} {ws : List (Key × V)}, KAt ⟨X.K, fun a => rs a ∨ a = p⟩ ι1 S1.length H1 ks ws → KAt ⟨X.K, rs⟩ (bump ι1 S1.length p) (S1.length + 1) (upd H1 p (.dK (mergeK [] kws))) ks ws := fun h => Paired.mapP h fun _ _ q => ⟨q.1, off q.2⟩
      have lenM : (mergeK [] kws).length ≤ sizeLine := by
        have h1 := length_mergeK kws []
        rw [List.length_nil] at h1
        rw [sizeLine_eq]; omega
      have Ra : Rel ⟨X.K, rs⟩ (bump ι1 S1.length p) (S1 ++ [MO.dct (mergeD kvs)]) (upd H1 p (.dK (mergeK [] kws))) := by
        refine ⟨fun m n hm hn e => ?_, fun n x e => ?_, fun a h => ?_⟩
        · rw [hlen] at hm hn
          by_cases h1 : m < S1.length
          · by_cases h2 : n < S1.length
            · rw [bump_lt h1, bump_lt h2] at e; exact R1.inj m n h1 h2 e
            · rw [bump_lt h1, show n = S1.length by omega, bump_at] at e
              exact absurd e (nd1 m h1)
          · by_cases h2 : n < S1.length
            · rw [bump_lt h2, show m = S1.length by omega, bump_at] at e
              exact absurd e.symm (nd1 n h2)
            · omega
        · rw [hlen]
          by_cases h1 : n < S1.length
          · rw [List.getElem?_append_left h1] at e
            have q := R1.obj n x e
            rw [bump_lt h1]
            cases x with
            | lst ds => obtain ⟨ws, q1, q2, q3⟩ := q; exact ⟨ws, by rw [upd_ne (nd1 n h1)]; exact q1, offL q2, q3⟩
            | dct ks => obtain ⟨ws, q1, q2, q3⟩ := q; exact ⟨ws, by rw [upd_ne (nd1 n h1)]; exact q1, offK q2, q3⟩
          · have hn : n = S1.length := by
              have := (List.getElem?_eq_some_iff.mp e).1
              rw [hlen] at this
              omega
            subst hn
            rw [List.getElem?_append_right (Nat.le_refl _), Nat.sub_self] at e
            cases e
            rw [bump_at]
            exact ⟨_, upd_same, (offK l).merge .nil, lenM⟩
        · obtain ⟨u, q⟩ := R1.res a (Or.inl h)
          by_cases ea : a = p
          · exact ⟨_, by rw [ea, upd_same]⟩
          · exact ⟨u, by rw [upd_ne ea]; exact q⟩
      have := k (bump ι1 S1.length p) (upd H1 p (.dK (mergeK [] kws))) (.ref p) (by rw [hlen]; exact Ea) Ra (by
        rw [hlen]
        have q : At ⟨X.K, rs⟩ (bump ι1 S1.length p) (S1.length + 1) (upd H1 p (.dK (mergeK [] kws))) (.ref S1.length) (.ref (bump ι1 S1.length p S1.length)) := .ref (Nat.lt_succ_self _)
        rw [bump_at] at q
        exact q)
      exact this
    · cases hf
  · cases hf
end
end FS
set_option Elab.async false
set_option linter.all false
set_option maxRecDepth 100000
set_option maxHeartbeats 4000000
namespace FS
open PySem PySem.Spec PyProof.Rows L2

theorem atL_ints {K : KR} {ι : Nat → Addr} {N : Nat} {H : Hp} : ∀ ns : List Int, AtL K ι N H (ns.map D.int) (ns.map V.int)
  | [] => .nil
  | n :: ns => .cons (.int n) (atL_ints ns)
/-- the law's def is asked with the script alone -/
theorem sp_script {K : PySem.W.Frag} {F : Fn} {H : Hp} {a : Addr} {ns : List Int} {S' : Sto} (h : RdS ⟨K, fun _ => False⟩ H a (ns.map V.int)) (hz : ns.length ≤ sizeLine) (hF : F [.scr (ns.map D.int)] [] = some (.bl true, S')) :
    spOf K F [.ref a] H (fun v _ => v = .bl true) := by
  refine ⟨fun _ => False, fun _ => 0, [], [.scr (ns.map D.int)], .bl true, S', ⟨fun m n hm => absurd hm (Nat.not_lt_zero _), fun n o e => by simp at e, fun a z => z.elim⟩, .cons (.scr h (by rw [List.length_map]; exact hz) (atL_ints ns)) .nil, hF, ?_⟩
  intro ι' H' v _ _ q
  cases q
  rfl
theorem law_callG {P : Program} {w : World} {K : PySem.W.Frag} {mg mb : Str → Option Value} {k : Nat} {fa a : Addr} {fd : FuncData} {x : Str} {F : Fn} {s₁ : Shared} {vs : List Value} {ns : List Int} {S' : Sto}
    (KX : K.In s₁.heap) (hns : s₁.heap.Ns mainGlobals mg) (hb : s₁.heap.Ns builtinsNs mb) (hbb : ∀ x : Str, x ≠ "__name__" → mb x = bootBuiltins x) (hlim : s₁.heap.NoLimit) (hg : s₁.gens = #[])
    (ha : s₁.heap.get? a = some { cls := .type "list", data := .seq vs.toArray }) (hi : IntsAre vs ns) (hl : ns.length ≤ sizeLine) (hr : Room k callerA)
    (G : ∀ base : Heap, K.In base → base.Ns mainGlobals mg → FG P w K mg base k fa fd [x] F) (hbind : ∀ (s : Shared) (u : Value), BindsTo s fd ⟨[u], []⟩ [(x, u)])
    (hF : F [.scr (ns.map D.int)] [] = some (.bl true, S')) :
    codeAny (model P w) callerA (.call (.ref fa) ⟨[.ref a], []⟩) (fun r s' => r = .ok (.ret (.bool true)) ∧ OldK s₁.heap s'.heap ∧ s'.os = s₁.os ∧ AllBare s'.gens) s₁ := by
  have rv := vals_ints hi
  have lenV := hi.length
  have main : ∀ H : Hp, (∀ b u, H b = some u → b = a ∧ K.lookup a = none ∧ ∃ o ws, u = .frz o (.lst ws)) → RdS ⟨K, fun _ => False⟩ H a (ns.map V.int) → HOk P w H s₁.heap →
      codeAny (model P w) callerA (.call (.ref fa) ⟨[.ref a], []⟩) (fun r s' => r = .ok (.ret (.bool true)) ∧ OldK s₁.heap s'.heap ∧ s'.os = s₁.os ∧ AllBare s'.gens) s₁ := by
    intro H hO hS hok
    have only : ∀ {b : Addr}, b ≠ a → H b = none := by
      intro b hb
      cases q : H b with
      | none => rfl
      | some u => exact absurd (hO b u q).1 hb
    have dictFree : ∀ {b : Addr} {m : Str → Option Value}, s₁.heap.Ns b m → (hidT s₁.heap H).Ns b m := by
      rintro b m ⟨o, es, ep, e, d, r⟩
      refine ⟨o, es, ep, hidT_get e (only ?_), d, r⟩
      rintro rfl
      rw [ha] at e
      cases e
      cases d
    have KB : K.In (hidT s₁.heap H) := by
      intro b o e
      apply hidT_get (KX b o e)
      cases q : H b with
      | none => rfl
      | some u =>
        obtain ⟨rfl, q2, _⟩ := hO b u q
        rw [q2] at e; cases e
    have M : Mod K mg (hidT s₁.heap H) := ⟨KB, dictFree hns, ⟨mb, dictFree hb, hbb⟩, by obtain ⟨mc, h1, h2⟩ := hlim; exact ⟨mc, dictFree h1, h2⟩⟩
    have nil : ∀ b : Addr, b ∉ frs ([] : List Env) := fun b z => by simp [frs] at z
    have e0 : Env0 P w K mg (hidT s₁.heap H) callerA [] s₁ H := ⟨rfl, M, fun b o e => of_hidT e, Nat.le_of_eq (hidT_size _ _), trivial, fun b z => absurd z (nil b), hok, .of_eq hg⟩
    have run := (G _ KB (dictFree hns)).run callerA [] s₁ H ⟨[.ref a], []⟩ [.ref a] [.ref a] _ hr rfl e0 (hbind s₁ (.ref a)) (.cons rfl .nil) (sp_script hS hl hF)
    apply codeAny_mono run
    intro r s' h
    match r, h with
    | .ok (.ret u), ⟨v, H', os, bare, un, hok', r', q⟩ =>
      cases q
      cases r'
      refine ⟨rfl, OldK.of_keep fun b o e => ?_, os, bare⟩
      cases q : H b with
      | none => exact un.keep b o e q (nil b) (by simp)
      | some u =>
        obtain ⟨_, _, ob, ws, rfl⟩ := hO b u q
        have e1 := (hok b _ q).1
        have e2 := (hok' b _ (un.frzs b ob _ q)).1
        rw [e] at e1
        cases e1
        exact e2
    | .ok .next, h => exact h.elim
    | .ok .brk, h => exact h.elim
    | .ok .cont, h => exact h.elim
    | .error _, h => exact h.elim
  have hv : Vals (ns.map V.int) vs := rv
  cases hk : K.lookup a with
  | some o =>
    have e := KX a o hk
    rw [ha] at e
    cases e
    refine main (fun _ => none) (fun b u z => ?_) (.inr ⟨_, vs.toArray, _, hk, rfl, rfl, rfl, ?_, ?_⟩) (fun b u z => ?_)
    · cases z
    · rw [List.size_toArray, lenV]; exact hl
    · simpa using hv
    · cases z
  | none =>
    let o₀ : Obj := { cls := .type "list", data := .seq vs.toArray }
    refine main (fun b => if b = a then some (.frz o₀ (.lst (ns.map V.int))) else none) (fun b u z => ?_) (.inl ⟨o₀, if_pos rfl⟩) (fun b u z => ?_)
    · replace z : (if b = a then some (HO.frz o₀ (.lst (ns.map V.int))) else none) = some u := z
      split at z
      · rename_i hb
        cases z
        exact ⟨hb, hk, _, _, rfl⟩
      · cases z
    · replace z : (if b = a then some (HO.frz o₀ (.lst (ns.map V.int))) else none) = some u := z
      split at z
      · rename_i hb
        cases z
        subst hb
        exact ⟨ha, by rw [List.length_map]; exact hl, vs, _, hv, ha⟩
      · cases z
/-- the goal that the head leaves -/
theorem walk_ofG {l : PySem.W.OpenLaw} {n k : Nat} {q : Program} {loose : List Str} {XP : (Str → Option Value) → Heap → Prop} {YP : World → Heap → Prop} {d : DefRec} {K : Params → PySem.W.Frag} {F : Fn} {x : Str}
    (hn : l.most = some n) (hn2 : n ≤ sizeLine) (hdf : d.params.defaults = []) (hr : Room k callerA) (hY : ∀ (w : World) (h : Heap), YP w h → (K w.params).In h)
    (G : ∀ (w : World) (mg : Str → Option Value) (fa : Addr) (h : Heap), (K w.params).In h → h.Ns mainGlobals mg → mg d.name = some (.ref fa) →
      ∃ fd : FuncData, (∀ (s : Shared) (u : Value), BindsTo s fd ⟨[u], []⟩ [(x, u)]) ∧ ∀ base : Heap, (K w.params).In base → base.Ns mainGlobals mg → FG l.prog w (K w.params) mg base k fa fd [x] F)
    (hF : ∀ ns : List Int, ns.length ≤ n → ∃ S', F [.scr (ns.map D.int)] [] = some (.bl true, S')) :
    PySem.W.WalkO q loose XP YP l.row.toRowW d [] (fun f vs => PySem.call f vs) := by
  apply Att.attach_call hn hdf
  intro w s₀ s₁ mg mb fa o pm cd doc a vs ns T Y ho hd hcd hmg hobj hints hlen hg
  have KX := hY w _ Y
  obtain ⟨fd, hb, hG⟩ := G w mg fa _ KX T.T.g hmg
  obtain ⟨S', hS⟩ := hF ns hlen
  exact law_callG KX T.T.g T.T.b T.T.builtins T.T.nolimit hg hobj hints (Nat.le_trans hlen hn2) hr hG hb hS
end FS
set_option Elab.async false
set_option linter.all false
set_option maxRecDepth 100000
set_option maxHeartbeats 4000000
namespace FS
open PySem PySem.Spec PyProof.Rows L2

/-! ### stores -/
/-- all numbers in the store are numbers of the store -/
def Clo (S : Sto) : Prop := S.all (closedM S.length) = true
mutual
theorem closed_mono {m n : Nat} (h : m ≤ n) : ∀ {d : D}, closed m d = true → closed n d = true
  | .non, _ => rfl
  | .bl _, _ => rfl
  | .int _, _ => rfl
  | .str _, _ => rfl
  | .tup xs, c => by simp only [closed] at c ⊢; exact closedL_mono h c
  | .lst xs, c => by simp only [closed] at c ⊢; exact closedL_mono h c
  | .scr xs, c => by simp only [closed] at c ⊢; exact closedL_mono h c
  | .ref k, c => by simp only [closed, decide_eq_true_eq] at c ⊢; omega
theorem closedL_mono {m n : Nat} (h : m ≤ n) : ∀ {ds : List D}, closedL m ds = true → closedL n ds = true
  | [], _ => rfl
  | x :: xs, c => by
    simp only [closedL, Bool.and_eq_true] at c ⊢
    exact ⟨closed_mono h c.1, closedL_mono h c.2⟩
end
theorem closedM_mono {m n : Nat} (h : m ≤ n) : ∀ {u : MO}, closedM m u = true → closedM n u = true
  | .lst _, c => closedL_mono h c
  | .dct _, c => closedL_mono h c
theorem closedL_iff {n : Nat} : ∀ {ds : List D}, closedL n ds = true ↔ ∀ d ∈ ds, closed n d = true
  | [] => by simp [closedL]
  | x :: xs => by simp [closedL, closedL_iff (ds := xs)]
theorem Clo.nil : Clo [] := rfl
theorem Clo.at {S : Sto} (c : Clo S) {n : Nat} {u : MO} (h : S[n]? = some u) : closedM S.length u = true := List.all_eq_true.mp c u (List.mem_of_getElem? h)
theorem Clo.app {S : Sto} {u : MO} (c : Clo S) (h : closedM (S.length + 1) u = true) : Clo (S ++ [u]) := by
  unfold Clo
  rw [List.all_append, List.length_append, List.length_singleton, Bool.and_eq_true]
  refine ⟨List.all_eq_true.mpr fun x hx => closedM_mono (Nat.le_succ _) (List.all_eq_true.mp c x hx), by simp [h]⟩
theorem Clo.set {S : Sto} {n : Nat} {u : MO} (c : Clo S) (h : closedM S.length u = true) : Clo (S.set n u) := by
  unfold Clo
  rw [List.length_set]
  refine List.all_eq_true.mpr fun x hx => ?_
  rcases List.mem_or_eq_of_mem_set hx with z | z
  · exact List.all_eq_true.mp c x z
  · rw [z]; exact h
theorem lsOf_app {S T : Sto} {d : D} {xs : List D} (h : lsOf S d = some xs) : lsOf (S ++ T) d = some xs := by
  unfold lsOf at h ⊢
  split at h
  · exact h
  · exact h
  · rename_i n
    split at h
    · rename_i ys e
      rw [List.getElem?_append_left (List.getElem?_eq_some_iff.mp e).1, e]
      exact h
    · cases h
  · cases h
theorem lsOf_set {S : Sto} {n : Nat} {u : MO} {d : D} {xs : List D} (hd : closed n d = true) (h : lsOf S d = some xs) : lsOf (S.set n u) d = some xs := by
  unfold lsOf at h ⊢
  split at h
  · exact h
  · exact h
  · rename_i k
    simp only [closed, decide_eq_true_eq] at hd
    rw [List.getElem?_set_ne (by omega)]
    exact h
  · cases h
theorem sqOf_of_ls {S : Sto} {d : D} {xs : List D} (h : lsOf S d = some xs) : sqOf S d = some xs := by
  unfold sqOf
  split
  · cases h
  · exact h
theorem lsOf_lm {S : Sto} {d : D} {xs : List D} (h : lmOf S d = some xs) : lsOf S d = some xs := by
  unfold lmOf at h
  unfold lsOf
  split at h
  · exact h
  · exact h
  · cases h
/-! ### settling -/
theorem settle_eq {n : Nat} {d : D} {S' : Sto} (h1 : n ≤ S'.length) (h2 : Clo (S'.take n)) (h3 : closed n d = true) : settle n (d, S') = some (d, S'.take n) := by
  have hl : (S'.take n).length = n := by rw [List.length_take]; omega
  have h2' : (S'.take n).all (closedM n) = true := by have := h2; unfold Clo at this; rw [hl] at this; exact this
  simp only [settle]
  rw [if_pos ⟨h1, h2'⟩, if_pos h3]
theorem settled_same {F : Fn} {ds : List D} {S : Sto} {d : D} (h : F ds S = some (d, S)) (c : Clo S) (hd : closed S.length d = true) : settled F ds S = some (d, S) := by
  unfold settled
  rw [h]
  show settle S.length (d, S) = _
  rw [settle_eq (Nat.le_refl _) (by rw [List.take_length]; exact c) hd, List.take_length]
theorem settled_app {F : Fn} {ds : List D} {S T : Sto} {d : D} (h : F ds S = some (d, S ++ T)) (c : Clo S) (hd : closed S.length d = true) : settled F ds S = some (d, S) := by
  unfold settled
  rw [h]
  show settle S.length (d, S ++ T) = _
  rw [settle_eq (by simp) (by rw [List.take_left]; exact c) hd, List.take_left]
theorem settled_to {F : Fn} {ds : List D} {S S1 T : Sto} {d : D} (h : F ds S = some (d, S1 ++ T)) (hl : S1.length = S.length) (c : Clo S1) (hd : closed S.length d = true) : settled F ds S = some (d, S1) := by
  unfold settled
  rw [h]
  show settle S.length (d, S1 ++ T) = _
  rw [← hl] at hd ⊢
  rw [settle_eq (by simp) (by rw [List.take_left]; exact c) hd, List.take_left]
theorem settled_lst {F : Fn} {ds : List D} {S S1 T : Sto} {m : Nat} {xs : List D} (h : F ds S = some (.ref m, S1 ++ T)) (hl : S1.length = S.length) (c : Clo S1) (hm : S.length ≤ m) (hx : (S1 ++ T)[m]? = some (.lst xs)) (hc : closedL S.length xs = true) :
    settled F ds S = some (.lst xs, S1) := by
  unfold settled
  rw [h]
  show settle S.length (.ref m, S1 ++ T) = _
  have c' : S1.all (closedM S1.length) = true := c
  simp only [settle]
  rw [hx, ← hl, List.take_left, if_pos ⟨by simp, c'⟩, if_neg (by simp only [closed, decide_eq_true_eq]; omega)]
  dsimp only
  rw [if_pos ⟨by omega, by rw [hl]; exact hc⟩]

/-! ### loops -/
theorem forB_inv {c : Sto → Bool} {t : Tg} {b : B} (I : List D → Rho → Sto → Prop)
    (hs : ∀ x xs ρ S, I (x :: xs) ρ S → ∃ ρ1 ρ2 S2, t x ρ = some ρ1 ∧ (b ρ1 S = some (.nx, ρ2, S2) ∨ b ρ1 S = some (.ct, ρ2, S2)) ∧ c S2 = true ∧ I xs ρ2 S2) :
    ∀ (xs : List D) (ρ : Rho) (S : Sto), I xs ρ S → ∃ ρ' S', forB c t b xs ρ S = some (.nx, ρ', S') ∧ I [] ρ' S'
  | [], ρ, S, h => ⟨ρ, S, rfl, h⟩
  | x :: xs, ρ, S, h => by
    obtain ⟨ρ1, ρ2, S2, e1, e2, e3, h2⟩ := hs x xs ρ S h
    obtain ⟨ρ', S', e4, h4⟩ := forB_inv I hs xs ρ2 S2 h2
    refine ⟨ρ', S', ?_, h4⟩
    simp only [forB, e1]
    rcases e2 with e2 | e2 <;> (rw [e2]; dsimp only; rw [if_pos e3]; exact e4)
theorem lcB_sel {α : Type} {t : Tg} {c : Gb} {f : G} {st : Sto → Bool} {ρ : Rho} {S : Sto} (enc : α → D) (p : α → Bool) (g : α → D) (hst : st S = true) : ∀ (xs : List α),
    (∀ x ∈ xs, ∃ ρ1, t (enc x) ρ = some ρ1 ∧ c ρ1 S = some (p x, S) ∧ (p x = true → f ρ1 S = some (g x, S))) → lcB t c f st ρ (xs.map enc) S = some ((xs.filter p).map g, S)
  | [], _ => rfl
  | x :: xs, h => by
    obtain ⟨ρ1, e1, e2, e3⟩ := h x (List.mem_cons_self)
    have ih := lcB_sel enc p g hst xs fun y hy => h y (List.mem_cons_of_mem _ hy)
    simp only [List.map_cons, lcB, e1, e2]
    cases hp : p x with
    | false =>
      simp only [List.filter_cons, hp, Bool.false_eq_true, if_false]
      rw [if_pos hst]
      exact ih
    | true =>
      simp only [List.filter_cons, hp, if_true, e3 hp, List.map_cons]
      rw [if_pos hst, ih]
theorem lcB_map {α : Type} {t : Tg} {f : G} {st : Sto → Bool} {ρ : Rho} {S : Sto} (enc : α → D) (g : α → D) (hst : st S = true) (xs : List α)
    (h : ∀ x ∈ xs, ∃ ρ1, t (enc x) ρ = some ρ1 ∧ f ρ1 S = some (g x, S)) : lcB t cYes f st ρ (xs.map enc) S = some (xs.map g, S) := by
  have := lcB_sel (t := t) (c := cYes) (f := f) (st := st) (ρ := ρ) (S := S) enc (fun _ => true) g hst xs fun x hx => by
    obtain ⟨ρ1, e1, e2⟩ := h x hx
    exact ⟨ρ1, e1, rfl, fun _ => e2⟩
  rw [this, List.filter_eq_self.mpr (fun _ _ => rfl)]
theorem lcB_inv {t : Tg} {f : G} {st : Sto → Bool} {ρ : Rho} (I : List D → List D → Sto → Prop)
    (hs : ∀ x xs acc S, I (x :: xs) acc S → ∃ ρ1 d S2, t x ρ = some ρ1 ∧ f ρ1 S = some (d, S2) ∧ st S2 = true ∧ I xs (acc ++ [d]) S2) :
    ∀ (xs acc : List D) (S : Sto), st S = true → I xs acc S → ∃ ds S', lcB t cYes f st ρ xs S = some (ds, S') ∧ I [] (acc ++ ds) S'
  | [], acc, S, _, h => ⟨[], S, rfl, by rw [List.append_nil]; exact h⟩
  | x :: xs, acc, S, h0, h => by
    obtain ⟨ρ1, d, S2, e1, e2, e3, h2⟩ := hs x xs acc S h
    obtain ⟨ds, S', e4, h4⟩ := lcB_inv I hs xs (acc ++ [d]) S2 e3 h2
    refine ⟨d :: ds, S', ?_, by rw [List.append_cons]; exact h4⟩
    simp only [lcB, e1, cYes, e2]
    rw [if_pos e3, e4]
theorem still_none {xs : List D} {S : Sto} : still xs none S = true := rfl
theorem still_at {xs : List D} {n : Nat} {S : Sto} (h : S[n]? = some (.lst xs)) : still xs (some n) S = true := by
  simp only [still, h]
  exact sameL_refl xs
/-! ### items by written places -/
theorem atI_of {α : Type} (xs : List α) (n : Nat) : atI xs (n : Int) = xs[n]? := by
  cases h : xs[n]? with
  | some v => exact atI_nat h
  | none =>
    unfold atI ixN
    rw [if_pos (Int.natCast_nonneg n)]
    rw [List.getElem?_eq_none_iff] at h
    rw [if_neg (by omega)]
    rfl
theorem ixO_tup (S : Sto) (xs : List D) (n : Nat) : ixO S (.tup xs) (.int (n : Int)) = xs[n]? := atI_of xs n
theorem ixO_ls {S : Sto} {d : D} {xs : List D} (h : lsOf S d = some xs) (n : Nat) : ixO S d (.int (n : Int)) = xs[n]? := by
  cases d with
  | lst ys => cases h; exact atI_of _ n
  | scr ys => cases h; exact atI_of _ n
  | ref k =>
    show (match sqOf S (.ref k) with | some xs => atI xs (n : Int) | none => none) = _
    rw [sqOf_of_ls h]
    exact atI_of _ n
  | _ => cases h
theorem ix0 (S : Sto) (a : D) (r : List D) : ixO S (.tup (a :: r)) (.int 0) = some a := ixO_tup S (a :: r) 0
theorem ix1 (S : Sto) (a b : D) (r : List D) : ixO S (.tup (a :: b :: r)) (.int 1) = some b := ixO_tup S (a :: b :: r) 1
theorem ix2 (S : Sto) (a b c : D) (r : List D) : ixO S (.tup (a :: b :: c :: r)) (.int 2) = some c := ixO_tup S (a :: b :: c :: r) 2
theorem ix3 (S : Sto) (a b c d : D) (r : List D) : ixO S (.tup (a :: b :: c :: d :: r)) (.int 3) = some d := ixO_tup S (a :: b :: c :: d :: r) 3
theorem ix4 (S : Sto) (a b c d e : D) (r : List D) : ixO S (.tup (a :: b :: c :: d :: e :: r)) (.int 4) = some e := ixO_tup S (a :: b :: c :: d :: e :: r) 4
theorem ix5 (S : Sto) (a b c d e f : D) (r : List D) : ixO S (.tup (a :: b :: c :: d :: e :: f :: r)) (.int 5) = some f := ixO_tup S (a :: b :: c :: d :: e :: f :: r) 5
end FS
set_option Elab.async false
set_option linter.all false
set_option maxRecDepth 100000
set_option maxHeartbeats 4000000
namespace FS
open PySem PySem.Spec PyProof.Rows L2
/-! ### lists of the store -/
theorem sq_cases {S : Sto} {d : D} {xs : List D} (h : sqOf S d = some xs) : d = .tup xs ∨ lsOf S d = some xs := by
  unfold sqOf at h
  split at h
  · cases h; exact .inl rfl
  · exact .inr h
theorem sqOf_app {S T : Sto} {d : D} {xs : List D} (h : sqOf S d = some xs) : sqOf (S ++ T) d = some xs := by
  rcases sq_cases h with rfl | h
  · rfl
  · exact sqOf_of_ls (lsOf_app h)
theorem sqOf_set {S : Sto} {n : Nat} {u : MO} {d : D} {xs : List D} (hd : FS.closed n d = true) (h : sqOf S d = some xs) : sqOf (S.set n u) d = some xs := by
  rcases sq_cases h with rfl | h
  · rfl
  · exact sqOf_of_ls (lsOf_set hd h)
theorem ap_at {S : Sto} (u : MO) : (S ++ [u])[S.length]? = some u := by simp
theorem ap_set {S : Sto} (u v : MO) : (S ++ [u]).set S.length v = S ++ [v] := by simp
theorem ixO_sq {S : Sto} {d : D} {xs : List D} (h : sqOf S d = some xs) (n : Nat) : ixO S d (.int (n : Int)) = xs[n]? := by
  rcases sq_cases h with rfl | h
  · exact ixO_tup S _ n
  · exact ixO_ls h n
theorem lenO_sq {S : Sto} {d : D} {xs : List D} (h : sqOf S d = some xs) : lenO S [d] = some (.int xs.length) := by
  cases d with
  | str z => cases h
  | _ => exact congrArg (Option.map fun xs : List D => D.int xs.length) h
theorem intsFrom_map (n : Nat) : ∀ i : Int, FS.intsFrom i n = (List.range n).map fun (k : Nat) => D.int (i + k) := by
  induction n with
  | zero => intro i; rfl
  | succ n ih =>
    intro i
    rw [List.range_succ_eq_map, List.map_cons, List.map_map, FS.intsFrom, ih]
    congr 1
    · simp
    · refine List.map_congr_left fun k _ => ?_
      simp only [Function.comp]
      congr 1
      omega
theorem ints0 (n : Nat) : FS.intsFrom 0 n = (List.range n).map fun (k : Nat) => D.int k := by
  rw [intsFrom_map]
  refine List.map_congr_left fun k _ => ?_
  congr 1
  omega
/-- a loop over a list: what holds of what is behind it -/
theorem forB_pre {α : Type} {c : Sto → Bool} {t : Tg} {b : B} (enc : α → D) (St : List α → Rho → Sto → Prop) :
    ∀ (post pre : List α), (∀ pre' x post', pre ++ post = pre' ++ x :: post' → ∀ ρ S, St pre' ρ S → ∃ ρ1 ρ2 S2, t (enc x) ρ = some ρ1 ∧ (b ρ1 S = some (.nx, ρ2, S2) ∨ b ρ1 S = some (.ct, ρ2, S2)) ∧ c S2 = true ∧ St (pre' ++ [x]) ρ2 S2) →
    ∀ ρ S, St pre ρ S → ∃ ρ' S', forB c t b (post.map enc) ρ S = some (.nx, ρ', S') ∧ St (pre ++ post) ρ' S'
  | [], pre, _, ρ, S, h => ⟨ρ, S, rfl, by rw [List.append_nil]; exact h⟩
  | x :: post, pre, hs, ρ, S, h => by
    obtain ⟨ρ1, ρ2, S2, e1, e2, e3, h2⟩ := hs pre x post rfl ρ S h
    obtain ⟨ρ', S', e4, h4⟩ := forB_pre enc St post (pre ++ [x]) (fun p y q e => hs p y q (by rw [← e]; simp)) ρ2 S2 h2
    refine ⟨ρ', S', ?_, by simpa using h4⟩
    simp only [List.map_cons, forB, e1]
    rcases e2 with e2 | e2 <;> (rw [e2]; dsimp only; rw [if_pos e3]; exact e4)
theorem forB_all {α : Type} {c : Sto → Bool} {t : Tg} {b : B} (enc : α → D) (St : List α → Rho → Sto → Prop) (xs : List α)
    (hs : ∀ pre x post, xs = pre ++ x :: post → ∀ ρ S, St pre ρ S → ∃ ρ1 ρ2 S2, t (enc x) ρ = some ρ1 ∧ (b ρ1 S = some (.nx, ρ2, S2) ∨ b ρ1 S = some (.ct, ρ2, S2)) ∧ c S2 = true ∧ St (pre ++ [x]) ρ2 S2)
    {ρ : Rho} {S : Sto} (h : St [] ρ S) : ∃ ρ' S', forB c t b (xs.map enc) ρ S = some (.nx, ρ', S') ∧ St xs ρ' S' :=
  forB_pre enc St xs [] (fun p y q e => hs p y q e) ρ S h
theorem range_pre {n : Nat} {pre post : List Nat} {x : Nat} (e : List.range n = pre ++ x :: post) : pre = List.range x ∧ x < n := by
  have hx : pre.length < n := by
    have := congrArg List.length e
    simp at this
    omega
  have h1 : (List.range n)[pre.length]? = some x := by rw [e]; simp
  rw [List.getElem?_range hx] at h1
  cases h1
  refine ⟨?_, hx⟩
  have := congrArg (List.take pre.length) e
  rw [List.take_left, List.take_range, Nat.min_eq_left (by omega)] at this
  exact this.symm
theorem forB_range {c : Sto → Bool} {t : Tg} {b : B} (St : Nat → Rho → Sto → Prop) (n : Nat)
    (hs : ∀ k, k < n → ∀ ρ S, St k ρ S → ∃ ρ1 ρ2 S2, t (.int (k : Int)) ρ = some ρ1 ∧ (b ρ1 S = some (.nx, ρ2, S2) ∨ b ρ1 S = some (.ct, ρ2, S2)) ∧ c S2 = true ∧ St (k + 1) ρ2 S2)
    {ρ : Rho} {S : Sto} (h : St 0 ρ S) : ∃ ρ' S', forB c t b (FS.intsFrom 0 n) ρ S = some (.nx, ρ', S') ∧ St n ρ' S' := by
  rw [ints0]
  obtain ⟨ρ', S', e, h'⟩ := forB_all (c := c) (t := t) (b := b) (fun (k : Nat) => D.int k) (fun pre ρ S => St pre.length ρ S) (List.range n) (fun pre x post e ρ S h => by
    obtain ⟨e1, e2⟩ := range_pre e
    subst e1
    rw [List.length_range] at h
    obtain ⟨ρ1, ρ2, S2, a1, a2, a3, a4⟩ := hs x e2 ρ S h
    exact ⟨ρ1, ρ2, S2, a1, a2, a3, by simpa using a4⟩) (ρ := ρ) (S := S) h
  exact ⟨ρ', S', e, by simpa using h'⟩
theorem sIx_nat {n k d : Nat} : HT.sIx n d (some (k : Int)) = min k n := by
  unfold HT.sIx
  simp only
  split <;> omega
theorem cut_to {α : Type} (xs : List α) (k : Nat) : FS.cutD xs none (some (k : Int)) = xs.take k := by
  unfold FS.cutD
  rw [sIx_nat, show HT.sIx xs.length 0 none = 0 from rfl, List.drop_zero, Nat.sub_zero]
  rcases Nat.le_total k xs.length with h | h
  · rw [Nat.min_eq_left h]
  · rw [Nat.min_eq_right h, List.take_of_length_le (Nat.le_refl _), List.take_of_length_le h]
theorem cut_from {α : Type} (xs : List α) (k : Nat) : FS.cutD xs (some (k : Int)) none = xs.drop k := by
  unfold FS.cutD
  rw [sIx_nat, show HT.sIx xs.length xs.length none = xs.length from rfl]
  rcases Nat.le_total k xs.length with h | h
  · rw [Nat.min_eq_left h, List.take_of_length_le (by simp)]
  · rw [Nat.min_eq_right h]
    simp [List.drop_eq_nil_of_le h]
theorem slice_to (S : Sto) (xs : List D) (k : Nat) : sliceO S (.tup xs) none (some (k : Int)) = some (.tup (xs.take k)) := by
  show some (D.tup (FS.cutD xs none (some (k : Int)))) = _
  rw [cut_to]
theorem app_to {S : Sto} {n : Nat} {xs : List D} {y : D} (h : S[n]? = some (.lst xs)) (hl : xs.length < sizeLine) : appendO S (.ref n) [y] = some (.non, S.set n (.lst (xs ++ [y]))) := by
  unfold appendO
  simp only [h, if_pos hl]
theorem ext_to {S : Sto} {n : Nat} {xs zs : List D} (h : S[n]? = some (.lst xs)) (hl : xs.length + zs.length ≤ sizeLine) : extO S (.ref n) [.tup zs] = some (.non, S.set n (.lst (xs ++ zs))) := by
  unfold extO
  simp only [h, if_pos hl]
theorem isL_at {S : Sto} {n : Nat} {xs : List D} (h : S[n]? = some (.lst xs)) : isL S (.ref n) = true := by
  unfold isL lsOf
  simp only [h, Option.isSome]
theorem sL : sizeLine = 16777216 := sizeLine_eq
end FS
set_option Elab.async false
set_option linter.all false
set_option maxRecDepth 100000
set_option maxHeartbeats 4000000
/-! what holds behind a worth: step by step -/
namespace FS
open PySem PySem.Spec PyProof.Rows L2
def W1 {α : Type} (r : Option α) (Q : α → Prop) : Prop := ∃ a, r = some a ∧ Q a
def W2 {α : Type} (r : Option (α × Sto)) (Q : α → Sto → Prop) : Prop := ∃ a S, r = some (a, S) ∧ Q a S
def W3 (r : Option (Flw × Rho × Sto)) (Q : Flw → Rho → Sto → Prop) : Prop := ∃ fl ρ S, r = some (fl, ρ, S) ∧ Q fl ρ S
def sq (fl : Flw) (a b : Prop) : Prop := match fl with
  | .nx => a
  | _ => b
section
variable {α : Type} {Q1 : D → Prop} {Q : D → Sto → Prop} {Qb : Bool → Sto → Prop} {Ql : List D → Sto → Prop} {Qp : Option Int → Sto → Prop} {Q3 : Flw → Rho → Sto → Prop} {ρ ρ1 : Rho} {S S1 : Sto} {f g h : G} {c e : Gb} {r : Gs} {b1 b2 : B} {i j : Nat} {d : D} {op : Op2} {opn : OpN} {F : Fn} {l u : Gp}
theorem w1 {x : Option α} {Q : α → Prop} {a : α} (h : x = some a) (k : Q a) : W1 x Q := ⟨a, h, k⟩
theorem w2 {x : Option (α × Sto)} {Q : α → Sto → Prop} {a : α} (h : x = some (a, S)) (k : Q a S) : W2 x Q := ⟨a, S, h, k⟩
theorem w2_imp {x : Option (α × Sto)} {Q Q' : α → Sto → Prop} (h : W2 x Q') (k : ∀ a S, Q' a S → Q a S) : W2 x Q := let ⟨a, S, e, q⟩ := h; ⟨a, S, e, k a S q⟩
theorem w2_mid {x : Option (α × Sto)} {Q : α → Sto → Prop} (P : α → Sto → Prop) (h : W2 x P) (k : ∀ a S, P a S → Q a S) : W2 x Q := w2_imp h k
theorem w3_imp {x : Option (Flw × Rho × Sto)} {Q' : Flw → Rho → Sto → Prop} (h : W3 x Q') (k : ∀ a ρ S, Q' a ρ S → Q3 a ρ S) : W3 x Q3 := let ⟨a, ρ, S, e, q⟩ := h; ⟨a, ρ, S, e, k a ρ S q⟩
theorem sq_nx {a b : Prop} (h : a) : sq .nx a b := h
theorem sq_rt {a b : Prop} (h : b) : sq (.rt d) a b := h
theorem w_seq (h : W3 (b1 ρ S) fun fl ρ1 S1 => sq fl (W3 (b2 ρ1 S1) Q3) (Q3 fl ρ1 S1)) : W3 (cSeq b1 b2 ρ S) Q3 := by
  obtain ⟨fl, ρ1, S1, e, q⟩ := h
  unfold cSeq
  rw [e]
  cases fl with
  | nx => exact q
  | _ => exact ⟨_, _, _, rfl, q⟩
/-- a stop between two statements -/
theorem w_mid (P : Rho → Sto → Prop) (h : W3 (b1 ρ S) fun fl ρ1 S1 => fl = .nx ∧ P ρ1 S1) (k : ∀ ρ1 S1, P ρ1 S1 → W3 (b2 ρ1 S1) Q3) : W3 (cSeq b1 b2 ρ S) Q3 :=
  w_seq (w3_imp h fun fl ρ1 S1 q => by obtain ⟨rfl, q⟩ := q; exact k _ _ q)
/-- .. where the first may give back -/
theorem w_midr (P : Rho → Sto → Prop) (h : W3 (b1 ρ S) fun fl ρ1 S1 => (fl = .nx ∧ P ρ1 S1) ∨ ∃ d, fl = .rt d ∧ Q3 (.rt d) ρ1 S1) (k : ∀ ρ1 S1, P ρ1 S1 → W3 (b2 ρ1 S1) Q3) : W3 (cSeq b1 b2 ρ S) Q3 :=
  w_seq (w3_imp h fun fl ρ1 S1 q => by
    rcases q with ⟨rfl, q⟩ | ⟨d, rfl, q⟩
    · exact k _ _ q
    · exact q)
theorem w_set (h : W2 (f ρ S) fun d S1 => Q3 .nx (ρ.set i (some d)) S1) : W3 (cSet i f ρ S) Q3 := by
  obtain ⟨d, S1, e, q⟩ := h
  unfold cSet
  rw [e]
  exact ⟨_, _, _, rfl, q⟩
theorem w_ret (h : W2 (f ρ S) fun d S1 => Q3 (.rt d) ρ S1) : W3 (cRet f ρ S) Q3 := by
  obtain ⟨d, S1, e, q⟩ := h
  unfold cRet
  rw [e]
  exact ⟨_, _, _, rfl, q⟩
theorem w_drop (h : W2 (f ρ S) fun _ S1 => Q3 .nx ρ S1) : W3 (cDrop f ρ S) Q3 := by
  obtain ⟨d, S1, e, q⟩ := h
  unfold cDrop
  rw [e]
  exact ⟨_, _, _, rfl, q⟩
theorem w_nx (h : Q3 .nx ρ S) : W3 (cNx ρ S) Q3 := ⟨_, _, _, rfl, h⟩
theorem w_ifs (h : W2 (c ρ S) fun b S1 => (b = true → W3 (b1 ρ S1) Q3) ∧ (b = false → W3 (b2 ρ S1) Q3)) : W3 (cIfS c b1 b2 ρ S) Q3 := by
  obtain ⟨b, S1, e, q⟩ := h
  unfold cIfS
  rw [e]
  cases b with
  | true => exact q.1 rfl
  | false => exact q.2 rfl
theorem w_asg {t : Tg} (h : W2 (f ρ S) fun d S1 => ∃ ρ1, t d ρ = some ρ1 ∧ Q3 .nx ρ1 S1) : W3 (cAsg f t ρ S) Q3 := by
  obtain ⟨d, S1, e, ρ1, e1, q⟩ := h
  unfold cAsg
  rw [e]
  dsimp only
  rw [e1]
  exact ⟨_, _, _, rfl, q⟩
theorem w_par (h : W2 (r ρ S) fun xs S1 => ∃ x y, xs = [x, y] ∧ Q3 .nx ((ρ.set i (some x)).set j (some y)) S1) : W3 (cPar i j r ρ S) Q3 := by
  obtain ⟨d, S1, e, x, y, e1, q⟩ := h
  unfold cPar
  rw [e, e1]
  exact ⟨_, _, _, rfl, q⟩
theorem w_dput (hv : W2 (h ρ S) fun v S1 => W2 (f ρ S1) fun x S2 => ∃ n, x = .ref n ∧ W2 (g ρ S2) fun y S3 => ∃ kvs k, S3[n]? = some (.dct kvs) ∧ keyD y = some k ∧ kvs.length < sizeLine ∧ Q3 .nx ρ (S3.set n (.dct (putD kvs k v)))) : W3 (cDput f g h ρ S) Q3 := by
  obtain ⟨v, S1, e1, x, S2, e2, n, rfl, y, S3, e3, kvs, k, e4, e5, e6, q⟩ := hv
  unfold cDput
  rw [e1]
  dsimp only
  rw [e2]
  dsimp only
  rw [e3]
  dsimp only
  rw [e4, e5]
  dsimp only
  rw [if_pos e6]
  exact ⟨_, _, _, rfl, q⟩
theorem w_var (h : ρ[i]? = some (some d)) (k : Q d S) : W2 (cVar i ρ S) Q := ⟨d, S, by unfold cVar; rw [h], k⟩
theorem w_c (k : Q d S) : W2 (cC d ρ S) Q := ⟨d, S, rfl, k⟩
theorem w_bin (h : W2 (f ρ S) fun x S1 => W2 (g ρ S1) fun y S2 => W1 (op S2 x y) fun d => Q d S2) : W2 (cBin op f g ρ S) Q := by
  obtain ⟨x, S1, e1, y, S2, e2, d, e3, q⟩ := h
  refine ⟨d, S2, ?_, q⟩
  unfold cBin
  rw [e1]
  dsimp only
  rw [e2]
  dsimp only
  rw [e3]
theorem w_test (h : W2 (f ρ S) fun d S1 => ∃ b, d = .bl b ∧ Qb b S1) : W2 (cTest f ρ S) Qb := by
  obtain ⟨d, S1, e, b, rfl, q⟩ := h
  unfold cTest
  rw [e]
  exact ⟨_, _, rfl, q⟩
theorem w_if (h : W2 (c ρ S) fun b S1 => (b = true → W2 (f ρ S1) Q) ∧ (b = false → W2 (g ρ S1) Q)) : W2 (cIf c f g ρ S) Q := by
  obtain ⟨b, S1, e, q⟩ := h
  unfold cIf
  rw [e]
  cases b with
  | true => exact q.1 rfl
  | false => exact q.2 rfl
theorem w_andT (h : W2 (c ρ S) fun b S1 => (b = true → W2 (e ρ S1) Qb) ∧ (b = false → Qb false S1)) : W2 (cAndT c e ρ S) Qb := by
  obtain ⟨b, S1, e1, q⟩ := h
  unfold cAndT
  rw [e1]
  cases b with
  | true => exact q.1 rfl
  | false => exact ⟨_, _, rfl, q.2 rfl⟩
theorem w_orT (h : W2 (c ρ S) fun b S1 => (b = true → Qb true S1) ∧ (b = false → W2 (e ρ S1) Qb)) : W2 (cOrT c e ρ S) Qb := by
  obtain ⟨b, S1, e1, q⟩ := h
  unfold cOrT
  rw [e1]
  cases b with
  | true => exact ⟨_, _, rfl, q.1 rfl⟩
  | false => exact q.2 rfl
theorem w_notT (h : W2 (c ρ S) fun b S1 => Qb (!b) S1) : W2 (cNotT c ρ S) Qb := by
  obtain ⟨b, S1, e1, q⟩ := h
  unfold cNotT
  rw [e1]
  exact ⟨_, _, rfl, q⟩
theorem w_and (h : W2 (f ρ S) fun x S1 => ∃ b, x = .bl b ∧ (b = true → W2 (g ρ S1) Q) ∧ (b = false → Q (.bl false) S1)) : W2 (cAnd f g ρ S) Q := by
  obtain ⟨x, S1, e1, b, rfl, q⟩ := h
  unfold cAnd
  rw [e1]
  cases b with
  | true => exact q.1 rfl
  | false => exact ⟨_, _, rfl, q.2 rfl⟩
theorem w_yes (k : Qb true S) : W2 (cYes ρ S) Qb := ⟨_, _, rfl, k⟩
theorem w_nil (k : Ql [] S) : W2 (cNil ρ S) Ql := ⟨_, _, rfl, k⟩
theorem w_cons (h : W2 (f ρ S) fun x S1 => W2 (r ρ S1) fun xs S2 => Ql (x :: xs) S2) : W2 (cCons f r ρ S) Ql := by
  obtain ⟨x, S1, e1, xs, S2, e2, q⟩ := h
  unfold cCons
  rw [e1]
  dsimp only
  rw [e2]
  exact ⟨_, _, rfl, q⟩
theorem w_tup (h : W2 (r ρ S) fun xs S1 => xs.length ≤ sizeLine ∧ Q (.tup xs) S1) : W2 (cTup r ρ S) Q := by
  obtain ⟨xs, S1, e, z, q⟩ := h
  unfold cTup
  rw [e]
  dsimp only
  rw [if_pos z]
  exact ⟨_, _, rfl, q⟩
theorem w_lst (h : W2 (r ρ S) fun xs S1 => xs.length ≤ sizeLine ∧ Q (.lst xs) S1) : W2 (cLst r ρ S) Q := by
  obtain ⟨xs, S1, e, z, q⟩ := h
  unfold cLst
  rw [e]
  dsimp only
  rw [if_pos z]
  exact ⟨_, _, rfl, q⟩
theorem w_new (h : W2 (r ρ S) fun xs S1 => xs.length ≤ sizeLine ∧ Q (.ref S1.length) (S1 ++ [.lst xs])) : W2 (cNew r ρ S) Q := by
  obtain ⟨xs, S1, e, z, q⟩ := h
  unfold cNew
  rw [e]
  dsimp only
  rw [if_pos z]
  exact ⟨_, _, rfl, q⟩
theorem w_dnew (k : Q (.ref S.length) (S ++ [.dct []])) : W2 (cDnew ρ S) Q := ⟨_, _, rfl, k⟩
theorem w_op (h : W2 (r ρ S) fun xs S1 => W1 (opn S1 xs) fun d => Q d S1) : W2 (cOp opn r ρ S) Q := by
  obtain ⟨xs, S1, e, d, e1, q⟩ := h
  unfold cOp
  rw [e]
  dsimp only
  rw [e1]
  exact ⟨_, _, rfl, q⟩
theorem w_call0 (h : W2 (r ρ S) fun xs S1 => W2 (F xs S1) Q) : W2 (cCall F [] r ρ S) Q := by
  obtain ⟨xs, S1, e, q⟩ := h
  unfold cCall
  rw [e]
  dsimp only
  rw [List.append_nil]
  exact q
theorem w_meth {kd : Sto → D → Bool} {op : OpM} (h : W2 (f ρ S) fun x S1 => kd S1 x = true ∧ W2 (r ρ S1) fun ys S2 => W2 (op S2 x ys) Q) : W2 (cMeth kd op f r ρ S) Q := by
  obtain ⟨x, S1, e, z, ys, S2, e1, q⟩ := h
  unfold cMeth
  rw [e]
  dsimp only
  rw [if_pos z, e1]
  exact q
theorem w_sl (h : W2 (f ρ S) fun x S1 => W2 (l ρ S1) fun lo S2 => W2 (u ρ S2) fun hi S3 => W1 (sliceO S3 x lo hi) fun d => Q d S3) : W2 (cSl f l u ρ S) Q := by
  obtain ⟨x, S1, e1, lo, S2, e2, hi, S3, e3, d, e4, q⟩ := h
  refine ⟨d, S3, ?_, q⟩
  unfold cSl
  rw [e1]
  dsimp only
  rw [e2]
  dsimp only
  rw [e3]
  dsimp only
  rw [e4]
theorem w_nop (k : Qp none S) : W2 (cNoP ρ S) Qp := ⟨_, _, rfl, k⟩
theorem w_p (h : W2 (f ρ S) fun x S1 => ∃ i, x = .int i ∧ Qp (some i) S1) : W2 (cP f ρ S) Qp := by
  obtain ⟨x, S1, e1, i, rfl, q⟩ := h
  unfold cP
  rw [e1]
  exact ⟨_, _, rfl, q⟩
theorem w_dget (h : W2 (f ρ S) fun x S1 => ∃ n, x = .ref n ∧ W2 (g ρ S1) fun y S2 => ∃ kvs k d, S2[n]? = some (.dct kvs) ∧ keyD y = some k ∧ valD kvs k = some d ∧ Q d S2) : W2 (cDget f g ρ S) Q := by
  obtain ⟨x, S1, e1, n, rfl, y, S2, e2, kvs, k, d, e3, e4, e5, q⟩ := h
  refine ⟨d, S2, ?_, q⟩
  unfold cDget
  rw [e1]
  dsimp only
  rw [e2]
  dsimp only
  rw [e3, e4]
  dsimp only
  rw [e5]
theorem w_dget2 (hh : W2 (f ρ S) fun x S1 => ∃ n kvs, x = .ref n ∧ S1[n]? = some (.dct kvs) ∧ W2 (g ρ S1) fun y S2 => W2 (h ρ S2) fun z S3 => ∃ kvs k, S3[n]? = some (.dct kvs) ∧ keyD y = some k ∧ Q ((valD kvs k).getD z) S3) : W2 (cDget2 f g h ρ S) Q := by
  obtain ⟨x, S1, e1, n, kvs0, rfl, e0, y, S2, e2, z, S3, e3, kvs, k, e4, e5, q⟩ := hh
  refine ⟨_, S3, ?_, q⟩
  unfold cDget2
  rw [e1]
  dsimp only
  rw [e0]
  dsimp only
  rw [e2]
  dsimp only
  rw [e3]
  dsimp only
  rw [e4, e5]
theorem w_un {o : D → Option D} (h : W2 (f ρ S) fun x S1 => W1 (o x) fun d => Q d S1) : W2 (cUn o f ρ S) Q := by
  obtain ⟨x, S1, e1, d, e3, q⟩ := h
  refine ⟨d, S1, ?_, q⟩
  unfold cUn
  rw [e1]
  dsimp only
  rw [e3]
theorem w_run {np nn : Nat} {b : B} {ds : List D} (hl : ds.length = np) (h : W3 (b (ds.map some ++ List.replicate (nn - np) none) S) fun fl _ S1 => ∃ d, fl = .rt d ∧ Q d S1) : W2 (runFn np nn b ds S) Q := by
  obtain ⟨fl, ρ1, S1, e, d, rfl, q⟩ := h
  refine ⟨d, S1, ?_, q⟩
  unfold runFn
  rw [if_pos hl, e]
theorem w_lc {src : Src} {t : Tg} {vs : List Nat} (h : W2 ((src ρ S).map fun p => ((p.1, p.2.1), p.2.2)) fun p S1 => W2 (lcB t c f (still p.1 p.2) (wipeR ρ vs) p.1 S1) fun ds S2 => Q (.lst ds) S2) : W2 (cLc src t c f vs ρ S) Q := by
  obtain ⟨p, S1, e1, ds, S2, e2, q⟩ := h
  obtain ⟨⟨xs, w, S1'⟩, e3, e4⟩ := Option.map_eq_some_iff.mp e1
  cases e4
  refine ⟨_, S2, ?_, q⟩
  unfold cLc
  rw [e3]
  dsimp only at e2 ⊢
  rw [e2]
theorem w_fors {α : Type} {src : Src} {t : Tg} {b : B} (enc : α → D) (xs : List α) (w : Option Nat) (St : List α → Rho → Sto → Prop)
    (h : src ρ S = some (xs.map enc, w, S1)) (h0 : St [] ρ S1)
    (hs : ∀ pre x post, xs = pre ++ x :: post → ∀ ρ S, St pre ρ S → ∃ ρ1, t (enc x) ρ = some ρ1 ∧ W3 (b ρ1 S) fun fl ρ2 S2 => (fl = .nx ∨ fl = .ct) ∧ still (xs.map enc) w S2 = true ∧ St (pre ++ [x]) ρ2 S2)
    (k : ∀ ρ' S', St xs ρ' S' → Q3 .nx ρ' S') : W3 (cFor src t b ρ S) Q3 := by
  obtain ⟨ρ', S', e, q⟩ := forB_all (c := still (xs.map enc) w) (t := t) (b := b) enc St xs (fun pre x post e ρ S hSt => by
    obtain ⟨ρ1, e1, fl, ρ2, S2, e2, e3, e4, q⟩ := hs pre x post e ρ S hSt
    refine ⟨ρ1, ρ2, S2, e1, ?_, e4, q⟩
    rcases e3 with rfl | rfl
    · exact .inl e2
    · exact .inr e2) h0
  refine ⟨_, ρ', S', ?_, k ρ' S' q⟩
  unfold cFor
  rw [h]
  exact e
theorem w_forr {src : Src} {t : Tg} {b : B} (n : Nat) (St : Nat → Rho → Sto → Prop)
    (h : src ρ S = some (FS.intsFrom 0 n, none, S1)) (h0 : St 0 ρ S1)
    (hs : ∀ i, i < n → ∀ ρ S, St i ρ S → ∃ ρ1, t (.int (i : Int)) ρ = some ρ1 ∧ W3 (b ρ1 S) fun fl ρ2 S2 => (fl = .nx ∨ fl = .ct) ∧ St (i + 1) ρ2 S2)
    (k : ∀ ρ' S', St n ρ' S' → Q3 .nx ρ' S') : W3 (cFor src t b ρ S) Q3 := by
  obtain ⟨ρ', S', e, q⟩ := forB_range (c := still (FS.intsFrom 0 n) none) (t := t) (b := b) St n (fun i hi ρ S hSt => by
    obtain ⟨ρ1, e1, fl, ρ2, S2, e2, e3, q⟩ := hs i hi ρ S hSt
    refine ⟨ρ1, ρ2, S2, e1, ?_, rfl, q⟩
    rcases e3 with rfl | rfl
    · exact .inl e2
    · exact .inr e2) h0
  refine ⟨_, ρ', S', ?_, k ρ' S' q⟩
  unfold cFor
  rw [h]
  exact e
theorem w_src {r : Gs} {n : Nat} (h : W2 (r ρ S) fun xs S1 => xs = [.int (n : Int)] ∧ S1 = S) (hn : n ≤ 1000000) : sRng1 r ρ S = some (FS.intsFrom 0 n, none, S) := by
  obtain ⟨xs, S1, e, rfl, rfl⟩ := h
  unfold sRng1
  rw [e]
  dsimp only
  rw [if_pos ⟨by omega, by omega⟩]
  simp
theorem w_seqT {xs : List D} (h : W2 (f ρ S) fun d S1 => d = .tup xs ∧ S1 = S) : sSeq f ρ S = some (xs, none, S) := by
  obtain ⟨d, S1, e, rfl, rfl⟩ := h
  unfold sSeq
  rw [e]
theorem w_seqL {xs : List D} (h : W2 (f ρ S) fun d S1 => d = .lst xs ∧ S1 = S) : sSeq f ρ S = some (xs, none, S) := by
  obtain ⟨d, S1, e, rfl, rfl⟩ := h
  unfold sSeq
  rw [e]
theorem ex_rfl {α β : Type} {x : β} {g : α → β} {P : α → Prop} {a : α} (h : x = g a) (k : P a) : ∃ a, x = g a ∧ P a := ⟨a, h, k⟩
theorem sz_and {n : Nat} {P : Prop} (h : n ≤ sizeLine) (k : P) : n ≤ sizeLine ∧ P := ⟨h, k⟩
theorem lenT {xs : List D} : lenO S [.tup xs] = some (.int xs.length) := rfl
theorem lenLs {xs : List D} : lenO S [.lst xs] = some (.int xs.length) := rfl
/-! operations -/
variable {a b : Int} {x y : Str} {p q : Bool}
theorem o_add (k : Q1 (.int (a + b))) : W1 (addO S (.int a) (.int b)) Q1 := ⟨_, rfl, k⟩
theorem o_sub (k : Q1 (.int (a - b))) : W1 (subO S (.int a) (.int b)) Q1 := ⟨_, rfl, k⟩
theorem o_mul (h : CMul a b) (k : Q1 (.int (a * b))) : W1 (mulO S (.int a) (.int b)) Q1 := ⟨_, if_pos h, k⟩
theorem o_div (h : CDiv a b) (k : Q1 (.int (a / b))) : W1 (divO S (.int a) (.int b)) Q1 := ⟨_, if_pos h, k⟩
theorem o_mod (h : 0 < b) (k : Q1 (.int (a % b))) : W1 (modO S (.int a) (.int b)) Q1 := ⟨_, if_pos h, k⟩
theorem o_pow (h : CPow a b) (k : Q1 (.int (a ^ b.toNat))) : W1 (powO S (.int a) (.int b)) Q1 := ⟨_, if_pos h, k⟩
theorem o_lt (k : Q1 (.bl (decide (a < b)))) : W1 (ltO S (.int a) (.int b)) Q1 := ⟨_, rfl, k⟩
theorem o_le (k : Q1 (.bl (decide (a ≤ b)))) : W1 (leO S (.int a) (.int b)) Q1 := ⟨_, rfl, k⟩
theorem o_gt (k : Q1 (.bl (decide (b < a)))) : W1 (gtO S (.int a) (.int b)) Q1 := ⟨_, rfl, k⟩
theorem o_ge (k : Q1 (.bl (decide (b ≤ a)))) : W1 (geO S (.int a) (.int b)) Q1 := ⟨_, rfl, k⟩
theorem o_eqs (k : Q1 (.bl (x == y))) : W1 (eqO false S (.str x) (.str y)) Q1 := ⟨_, rfl, k⟩
theorem o_eqi (k : Q1 (.bl (decide (a = b)))) : W1 (eqO false S (.int a) (.int b)) Q1 := ⟨_, rfl, k⟩
theorem o_eqb (k : Q1 (.bl (p == q))) : W1 (eqO false S (.bl p) (.bl q)) Q1 := ⟨_, rfl, k⟩
theorem o_nes (k : Q1 (.bl (!(x == y)))) : W1 (eqO true S (.str x) (.str y)) Q1 := ⟨_, rfl, k⟩
theorem o_nei (k : Q1 (.bl (!decide (a = b)))) : W1 (eqO true S (.int a) (.int b)) Q1 := ⟨_, rfl, k⟩
theorem o_isnn {n : Bool} (k : Q1 (.bl (!n))) : W1 (isO n S .non .non) Q1 := ⟨_, rfl, k⟩
theorem o_isni {n : Bool} (k : Q1 (.bl n)) : W1 (isO n S (.int a) .non) Q1 := ⟨_, rfl, k⟩
theorem o_isns {n : Bool} (k : Q1 (.bl n)) : W1 (isO n S (.str x) .non) Q1 := ⟨_, rfl, k⟩
theorem o_min (k : Q1 (.int (min a b))) : W1 (minO S [.int a, .int b]) Q1 := ⟨_, rfl, by rw [show (if b < a then b else a) = min a b by omega]; exact k⟩
theorem o_int (k : Q1 (.int a)) : W1 (intOne S [.int a]) Q1 := ⟨_, rfl, k⟩
theorem o_lenT {xs : List D} (k : Q1 (.int xs.length)) : W1 (lenO S [.tup xs]) Q1 := ⟨_, rfl, k⟩
theorem o_lenL {xs : List D} (k : Q1 (.int xs.length)) : W1 (lenO S [.lst xs]) Q1 := ⟨_, rfl, k⟩
theorem o_neg (k : Q1 (.int (-a))) : W1 (negO (.int a)) Q1 := ⟨_, rfl, k⟩
end
end FS
set_option Elab.async false
set_option linter.all false
set_option maxRecDepth 100000
set_option maxHeartbeats 4000000
namespace FS
open PySem PySem.Spec PyProof.Rows L2
/-! ### isinstance of one built-in type -/
def tyD (S : Sto) : D → Option String
  | .non => some "NoneType"
  | .bl _ => some "bool"
  | .int _ => some "int"
  | .str _ => some "str"
  | .tup _ => some "tuple"
  | .lst _ => some "list"
  | .scr _ => some "list"
  | .ref n => match S[n]? with
    | some (.lst _) => some "list"
    | some (.dct _) => some "dict"
    | none => none
theorem tyD_at {K : KR} {ι : Nat → Addr} {S : Sto} {H : Hp} {d : D} {v : V} {t : String} (R : Rel K ι S H) (a : At K ι S.length H d v) (e : tyD S d = some t) : TyX K.k H v (.type t) := by
  cases a with
  | non => cases e; exact .base .non
  | bl b => cases e; exact .base (.bl b)
  | int i => cases e; exact .base (.int i)
  | str x => cases e; exact .base (.str x)
  | tup h z l =>
    cases e
    rcases h with (h | ⟨o, h⟩) | ⟨o, its, n, h, hc, _⟩
    · exact .base (.tup h)
    · exact .fTuple h
    · exact .kTuple h hc
  | lst h z l => cases e; exact .base (.lst h.1)
  | scr h z l =>
    cases e
    rcases h with ⟨o, h⟩ | ⟨o, its, n, h, hc, _⟩
    · exact .base (.frz h)
    · exact .kList h hc
  | @ref n hn =>
    simp only [tyD] at e
    split at e
    · rename_i xs hx
      cases e
      obtain ⟨vs, q, _⟩ := R.obj n _ hx
      exact .base (.lst q)
    · rename_i kvs hx
      cases e
      obtain ⟨vs, q, _⟩ := R.obj n _ hx
      exact .base (.dK q)
    · cases e
def isiB (a b : String) : Option Bool := if a = b then some true else if a = "bool" ∧ b = "int" then some true else if (a = "NoneType" ∨ a = "bool" ∨ a = "int" ∨ a = "str" ∨ a = "tuple" ∨ a = "list" ∨ a = "dict") ∧ (b = "bool" ∨ b = "int" ∨ b = "str" ∨ b = "tuple" ∨ b = "list") then some false else none
theorem isiB_kit {a b : String} {r : Bool} (h : isiB a b = some r) : kitB a b = some r := by
  unfold isiB at h
  split at h
  · rename_i e
    cases h
    subst e
    unfold kitB
    rw [if_pos (by simp)]
  · split at h
    · rename_i e
      cases h
      obtain ⟨rfl, rfl⟩ := e
      decide +kernel
    · split at h
      · rename_i h1 h2 e
        cases h
        obtain ⟨ha, hb⟩ := e
        rcases ha with rfl | rfl | rfl | rfl | rfl | rfl | rfl <;> rcases hb with rfl | rfl | rfl | rfl | rfl <;> first
          | exact absurd rfl h1
          | exact absurd ⟨rfl, rfl⟩ h2
          | decide +kernel
      · cases h
/-- isinstance(e, T) -/
def cIsi (T : String) (f : G) : G := fun ρ S => match f ρ S with
  | none => none
  | some (d, S1) => match tyD S1 d with
    | none => none
    | some t => match isiB t T with
      | none => none
      | some b => some (.bl b, S1)
variable {X : Cx} {e : Expr} {f : G} {p p2 pos : Pos}
theorem de_isi {T : String} {x : Str} (he : DE X e f) (hg : Gl X "isinstance") (hm : X.mg "isinstance" = none) (hgT : Gl X x) (hmT : X.mg x = none) (hv : bootBuiltins x = some (.type T)) (hn : x ≠ "__name__" := by decide) (hd : (x == ("__debug__" : Str)) = false := by decide)
    (h2 : starEach [.Name x p2] X.env = (false, eval (.Name x p2) X.env) :: starEach [] X.env := by rfl)
    (h1 : starEach (e :: [.Name x p2]) X.env = (false, eval e X.env) :: starEach [.Name x p2] X.env := by rfl) (hpl : (backTo pos (starEach [.Name x p2] X.env)).any (·.1) = false := by rfl) :
    DE X (.Call (.Name "isinstance" p) [e, .Name x p2] [] pos) (cIsi T f) := by
  refine PE.imp (pe_callB call_isi hg hm (by decide +kernel) (pa_cons he (pa_cons (pe_bltn (v := .ty T) hgT hmT hv rfl hn hd) pa_nil h2) h1) (by decide) (by decide) h1 hpl) ?_
  rintro σ H Q ⟨rs, ι, ρ, S, d, S', R, En, hf, k⟩
  unfold cIsi at hf
  split at hf
  · cases hf
  · rename_i y S1 e1
    split at hf
    · cases hf
    · rename_i t e2
      split at hf
      · cases hf
      · rename_i b e3
        cases hf
        refine tE.go R En e1 fun ι1 H1 v E1 R1 En1 a1 => ?_
        exact ⟨v, .ty T, .type t, .type T, b, rfl, .ty T, tyD_at R1 a1 e2, kit_ty (isiB_kit e3), (k.from E1).same R1 (.bl b)⟩
end FS
set_option Elab.async false
set_option linter.all false
set_option maxRecDepth 100000
set_option maxHeartbeats 4000000
namespace FS
open PySem PySem.Spec PyProof.Rows L2 RZ
section
variable {X : Cx} {a b c e : Expr} {es : List Expr} {f g h : G} {fs : Gs} {p pos : Pos}
/-! ### x < y < z -/
def cChain (o1 o2 : Op2) (f g h : G) : G := fun ρ S => match f ρ S with
  | none => none
  | some (x, S1) => match g ρ S1 with
    | none => none
    | some (y, S2) => match o1 S2 x y with
      | some (.bl true) => (match h ρ S2 with
        | none => none
        | some (z, S3) => match o2 S3 y z with
          | none => none
          | some d => some (d, S3))
      | some (.bl false) => some (.bl false, S2)
      | _ => none
theorem cChain_of {K : PySem.W.Frag} {r r' : R2} {op op' : Op2} (hs : Serves2 K r op) (hs' : Serves2 K r' op') : ∀ σ H Q, tE K (cChain op op' f g h) σ H Q → tChain r r' (tE K f) (tE K g) (tE K h) σ H Q := by
  rintro σ H Q ⟨rs, ι, ρ, S, d, S', R, En, hf, k⟩
  unfold cChain at hf
  split at hf
  · cases hf
  · rename_i x S1 e1
    split at hf
    · cases hf
    · rename_i y S2 e2
      refine tE.go R En e1 fun ι1 H1 v E1 R1 En1 a1 => ?_
      refine tE.go R1 En1 e2 fun ι2 H2 u E2 R2 En2 a2 => ?_
      split at hf
      · rename_i e3
        split at hf
        · cases hf
        · rename_i z S3 e4
          split at hf
          · cases hf
          · rename_i d1 e5
            cases hf
            refine hs rs ι2 S2 H2 x y v u _ _ R2 (a1.mono R1 E2) a2 e3 fun ι3 H3 w3 E3 R3 a3 => ?_
            cases a3
            refine ⟨true, rfl, ?_⟩
            rw [if_pos rfl]
            refine tE.go R3 (En2.mono R2 E3) e4 fun ι4 H4 w4 E4 R4 En4 a4 => ?_
            exact hs' rs ι4 S' H4 y z u w4 d Q R4 ((a2.mono R2 E3).mono R3 E4) a4 e5 (k.from (((E1.trans E2).trans E3).trans E4))
      · rename_i e3
        cases hf
        refine hs rs ι2 S' H2 x y v u _ _ R2 (a1.mono R1 E2) a2 e3 fun ι3 H3 w3 E3 R3 a3 => ?_
        cases a3
        refine ⟨false, rfl, ?_⟩
        rw [if_neg (by decide)]
        exact (k.from ((E1.trans E2).trans E3)).same R3 (.bl _)
      · cases hf
theorem de_chain {o o' : CmpOp} {r r' : R2} {op op' : Op2} (hr : OpR X (compareOp o) r) (hs : Serves2 X.K r op) (hr' : OpR X (compareOp o') r') (hs' : Serves2 X.K r' op') (ha : DE X a f) (hb : DE X b g) (hc : DE X c h)
    (hm : lastMarks [o, o'] [b, c] = false := by with_unfolding_all rfl) : DE X (.Compare a [o, o'] [b, c] pos) (cChain op op' f g h) := PE.imp (pe_chain hr hr' ha hb hc hm) (cChain_of hs hs')
theorem dt_chain {o o' : CmpOp} {r r' : R2} {op op' : Op2} (hr : OpR X (compareOp o) r) (hs : Serves2 X.K r op) (hr' : OpR X (compareOp o') r') (hs' : Serves2 X.K r' op') (ha : DE X a f) (hb : DE X b g) (hc : DE X c h)
    (hm : lastMarks [o, o'] [b, c] = false := by with_unfolding_all rfl) : DT X (.Compare a [o, o'] [b, c] pos) (cTest (cChain op op' f g h)) := by
  refine PT.imp (pt_chain hr hr' ha hb hc hm) ?_
  rintro σ H Q ⟨rs, ι, ρ, S, d, S', R, En, hf, k⟩
  unfold cTest at hf
  split at hf
  · rename_i y S1 e
    cases hf
    exact cChain_of hs hs' _ _ _ ⟨rs, ι, ρ, S, _, _, R, En, e, fun ι' H' v E' R' a => by cases a; exact ⟨_, rfl, k ι' H' E' R'⟩⟩
  · cases hf
theorem sv_lt : Serves2 X.K (rI0 fun i j => .bl (decide (i < j))) ltO := serves_rI0 fun _ _ _ _ _ _ => .bl _
theorem sv_le : Serves2 X.K (rI0 fun i j => .bl (decide (i ≤ j))) leO := serves_rI0 fun _ _ _ _ _ _ => .bl _
/-! ### all of a list -/
def boolsD : List D → Option (List Bool)
  | [] => some []
  | .bl b :: r => (boolsD r).map (b :: ·)
  | _ :: _ => none
theorem boolsD_at {K : KR} {ι : Nat → Addr} {N : Nat} {H : Hp} : ∀ {ds : List D} {vs : List V} {bs : List Bool}, AtL K ι N H ds vs → boolsD ds = some bs → vs = bs.map V.bl
  | _, _, _, .nil, e => by simp only [boolsD] at e; cases e; rfl
  | _, _, _, .cons (d := .bl b) h t, e => by
    simp only [boolsD] at e
    obtain ⟨r, e1, e2⟩ := Option.map_eq_some_iff.mp e
    subst e2
    cases h
    rw [boolsD_at t e1]
    rfl
  | _, _, _, .cons (d := .non) _ _, e => by simp only [boolsD] at e; cases e
  | _, _, _, .cons (d := .int _) _ _, e => by simp only [boolsD] at e; cases e
  | _, _, _, .cons (d := .str _) _ _, e => by simp only [boolsD] at e; cases e
  | _, _, _, .cons (d := .tup _) _ _, e => by simp only [boolsD] at e; cases e
  | _, _, _, .cons (d := .lst _) _ _, e => by simp only [boolsD] at e; cases e
  | _, _, _, .cons (d := .scr _) _ _, e => by simp only [boolsD] at e; cases e
  | _, _, _, .cons (d := .ref _) _ _, e => by simp only [boolsD] at e; cases e
def allO : OpN := fun S ds => match ds with
  | [d] => match lsOf S d with
    | some xs => (boolsD xs).map fun bs => .bl (bs.all id)
    | none => none
  | _ => none
theorem allO_ok : ServesN X.K (rAll X.K) allO := by
  intro rs ι S H ds vs d Q R a1 e k
  unfold allO at e
  split at e
  · split at e
    · rename_i xs e1
      obtain ⟨bs, e2, e3⟩ := Option.map_eq_some_iff.mp e
      subst e3
      cases a1 with
      | cons h t =>
        cases t
        obtain ⟨q, ws, rfl, hq, z, l⟩ := lsOf_at R h e1
        rw [boolsD_at l e2] at hq
        exact ⟨q, bs, rfl, hq, k.same R (.bl _)⟩
    · cases e
  · cases e
theorem de_all (hc : X.calm = true) (hg : Gl X "all") (hm : X.mg "all" = none) (ha : DA X (e :: es) fs) (he : starEach (e :: es) X.env = (false, eval e X.env) :: starEach es X.env := by rfl) (hpl : (backTo pos (starEach es X.env)).any (·.1) = false := by rfl) :
    DE X (.Call (.Name "all" p) (e :: es) [] pos) (cOp allO fs) := de_callB (cr_all hc) allO_ok hg hm (by decide +kernel) ha (by decide) (by decide) he hpl
/-! ### a tuple of the module -/
theorem de_gtup {x : Str} {q : Addr} {o : Obj} {its : Array Value} {n : Nat} {ds : List D} {vs : List V} (hg : Gl X x) (hm : X.mg x = some (.ref q)) (ho : X.K.lookup q = some o) (hc : o.cls = .type "tuple") (hd : o.data = .seq its n) (hz : its.size ≤ sizeLine) (hv : Vals vs its.toList)
    (w : ∀ K ι N H, AtL K ι N H ds vs) (hl : vs.length ≤ sizeLine) (hdb : (x == ("__debug__" : Str)) = false := by decide) : DE X (.Name x pos) (cC (.tup ds)) := by
  refine PE.imp (pe_glob hg hm (r := rfl) (v := .ref q) hdb) ?_
  rintro σ H Q ⟨rs, ι, ρ, S, d', S', R, En, hf, k⟩
  cases hf
  exact k.same R (.tup (.inr ⟨o, its, n, ho, hc, hd, hz, hv⟩) hl (w _ _ _ _))
/-! ### zip of two tuples or two lists -/
def pairsD (xs ys : List D) : List D := List.zipWith (fun a b => .tup [a, b]) xs ys
def sZip (r : Gs) : Src := fun ρ S => match r ρ S with
  | some ([.tup xs, .tup ys], S1) => some (pairsD xs ys, none, S1)
  | some ([.lst xs, .lst ys], S1) => some (pairsD xs ys, none, S1)
  | _ => none
variable {k : PySem.W.Frag} {rs : Addr → Prop} {ι : Nat → Addr} {S : Sto} {H : Hp} {q q2 : Addr} {xs ys : List D} {vs ws : List V}
theorem pairs_get {xs ys : List D} {i : Nat} {d : D} (h : (pairsD xs ys)[i]? = some d) : ∃ a b, xs[i]? = some a ∧ ys[i]? = some b ∧ d = .tup [a, b] := by
  unfold pairsD at h
  rw [List.getElem?_zipWith] at h
  cases e1 : xs[i]? with
  | none => rw [e1] at h; simp at h
  | some a =>
    cases e2 : ys[i]? with
    | none => rw [e1, e2] at h; simp at h
    | some b =>
      rw [e1, e2] at h
      simp at h
      exact ⟨a, b, rfl, rfl, h.symm⟩
theorem yl_zipT (R : Rel ⟨k, rs⟩ ι S H) (h1 : SqT k H q vs) (h2 : SqT k H q2 ws) (z : vs.length ≤ sizeLine) (l1 : AtL ⟨k, rs⟩ ι S.length H xs vs) (l2 : AtL ⟨k, rs⟩ ι S.length H ys ws) : Yl k rs (ItzT k q q2) ι S H (pairsD xs ys) none := by
  have n1 := l1.length
  have n2 := l2.length
  have hl : (pairsD xs ys).length = min vs.length ws.length := by unfold pairsD; rw [List.length_zipWith]; omega
  refine ⟨by omega, fun rs' ι2 S2 H2 _ E R2 _ i hi => ?_, fun rs' ι2 S2 H2 _ E R2 _ => ?_, fun rs' ι2 S2 H2 hw E R2 _ i d hd x H3 y => ?_⟩
  · exact ⟨vs, ws, vs[i], ws[i], sqT_mono (K := ⟨k, rs⟩) R E h1, sqT_mono (K := ⟨k, rs⟩) R E h2, List.getElem?_eq_getElem (by omega), List.getElem?_eq_getElem (by omega)⟩
  · exact ⟨vs, ws, sqT_mono (K := ⟨k, rs⟩) R E h1, sqT_mono (K := ⟨k, rs⟩) R E h2, by omega⟩
  · obtain ⟨T, x1, y1, rfl, hT, rfl, e1, e2⟩ := y
    obtain ⟨d1, d2, g1, g2, rfl⟩ := pairs_get hd
    obtain ⟨v1, q1, w1⟩ := ((l1.wide hw).mono R E).get g1
    obtain ⟨v2, q2', w2⟩ := ((l2.wide hw).mono R E).get g2
    have t1 := e1 vs (sqT_mono (K := ⟨k, rs⟩) R E h1)
    have t2 := e2 ws (sqT_mono (K := ⟨k, rs⟩) R E h2)
    rw [q1] at t1
    rw [q2'] at t2
    cases t1
    cases t2
    have E3 : Ext ι2 S2.length H2 ι2 S2.length (upd H2 T (.tup [x1, y1])) := Ext.fresh hT
    refine ⟨E3, R2.fresh hT, .tup (vs := [x1, y1]) (.inl (.inl upd_same)) (by rw [sL]; exact (by decide : 2 ≤ 16777216)) (.cons (w1.mono R2 E3) (.cons (w2.mono R2 E3) .nil))⟩
theorem yl_zipL (R : Rel ⟨k, rs⟩ ι S H) (h1 : RdL ⟨k, rs⟩ ι S.length H q vs) (h2 : RdL ⟨k, rs⟩ ι S.length H q2 ws) (z : vs.length ≤ sizeLine) (l1 : AtL ⟨k, rs⟩ ι S.length H xs vs) (l2 : AtL ⟨k, rs⟩ ι S.length H ys ws) : Yl k rs (Itz k q q2) ι S H (pairsD xs ys) none := by
  have n1 := l1.length
  have n2 := l2.length
  have hl : (pairsD xs ys).length = min vs.length ws.length := by unfold pairsD; rw [List.length_zipWith]; omega
  refine ⟨by omega, fun rs' ι2 S2 H2 _ E R2 _ i hi => ?_, fun rs' ι2 S2 H2 _ E R2 _ => ?_, fun rs' ι2 S2 H2 hw E R2 _ i d hd x H3 y => ?_⟩
  · exact ⟨vs, ws, vs[i], ws[i], (rdL_mono E h1).sq, (rdL_mono E h2).sq, List.getElem?_eq_getElem (by omega), List.getElem?_eq_getElem (by omega)⟩
  · exact ⟨vs, ws, (rdL_mono E h1).sq, (rdL_mono E h2).sq, by omega⟩
  · obtain ⟨T, x1, y1, rfl, hT, rfl, e1, e2⟩ := y
    obtain ⟨d1, d2, g1, g2, rfl⟩ := pairs_get hd
    obtain ⟨v1, q1, w1⟩ := ((l1.wide hw).mono R E).get g1
    obtain ⟨v2, q2', w2⟩ := ((l2.wide hw).mono R E).get g2
    have t1 := e1 vs (rdL_mono E h1).sq
    have t2 := e2 ws (rdL_mono E h2).sq
    rw [q1] at t1
    rw [q2'] at t2
    cases t1
    cases t2
    have E3 : Ext ι2 S2.length H2 ι2 S2.length (upd H2 T (.tup [x1, y1])) := Ext.fresh hT
    refine ⟨E3, R2.fresh hT, .tup (vs := [x1, y1]) (.inl (.inl upd_same)) (by rw [sL]; exact (by decide : 2 ≤ 16777216)) (.cons (w1.mono R2 E3) (.cons (w2.mono R2 E3) .nil))⟩
theorem di_zip {elts : List Expr} {kk : Nat} {tpos : Pos} (hg : Gl X "zip") (hm : X.mg "zip" = none) (ha : DA X [a, b] fs)
    (hs : starEach [a, b] X.env = (false, eval a X.env) :: starEach [b] X.env := by rfl) (hpl : (backTo pos (starEach [b] X.env)).any (·.1) = false := by rfl) : DI X (.Tuple elts kk tpos) (.Call (.Name "zip" p) [a, b] [] pos) (sZip fs) := by
  refine PI.imp (pi_zipA hg hm ha hs hpl) ?_
  rintro σ H Q ⟨rs, ι, ρ, S, xs, w, S', R, En, hf, kk⟩
  unfold sZip at hf
  split at hf
  · rename_i xs ys S1 e1
    cases hf
    refine tL.go R En e1 fun ι1 H1 v E1 R1 En1 a1 => ?_
    cases a1 with
    | cons h1 t1 =>
      cases t1 with
      | cons h2 t2 =>
        cases t2
        cases h1 with
        | tup hq z l =>
          cases h2 with
          | tup hq2 z2 l2 => exact ⟨_, _, _, _, rfl, .inr ⟨hq, hq2, kk _ _ _ E1 R1 rfl (yl_zipT R1 hq hq2 z l l2)⟩⟩
  · rename_i xs ys S1 e1
    cases hf
    refine tL.go R En e1 fun ι1 H1 v E1 R1 En1 a1 => ?_
    cases a1 with
    | cons h1 t1 =>
      cases t1 with
      | cons h2 t2 =>
        cases t2
        cases h1 with
        | lst hq z l =>
          cases h2 with
          | lst hq2 z2 l2 => exact ⟨_, _, _, _, rfl, .inl ⟨hq.sq, hq2.sq, kk _ _ _ E1 R1 rfl (yl_zipL R1 hq hq2 z l l2)⟩⟩
  · cases hf
/-! ### letters made great -/
def upperO : OpM := fun S x ys => match x, ys with
  | .str z, [] => if z.length ≤ 5592405 then some (.str (Txt.upper z), S) else none
  | _, _ => none
theorem de_upper {apos : Pos} (ho : DE X a f) (hbase : attributeBase a "upper" X.env (eval a X.env) = eval a X.env := by rfl) (hline : (apos.endLine == pos.line) = true := by rfl) :
    DE X (.Call (.Attribute a "upper" apos) [] [] pos) (cMeth isS upperO f cNil) := by
  refine PE.imp (pe_upper ho hbase hline) ?_
  rintro σ H Q ⟨rs, ι, ρ, S, d, S', R, En, hf, k⟩
  unfold cMeth at hf
  split at hf
  · cases hf
  · rename_i x S1 e1
    split at hf
    · rename_i hk
      simp only [cNil] at hf
      unfold upperO at hf
      split at hf
      · rename_i z ys hys
        split at hf
        · rename_i hz
          cases hf
          refine tE.go R En e1 fun ι1 H1 v E1 R1 En1 a1 => ?_
          cases a1
          exact ⟨⟨_, rfl⟩, _, rfl, rfl, hz, k _ _ _ E1 R1 (.str _)⟩
        · cases hf
      · cases hf
    · cases hf
end
end FS
set_option Elab.async false
set_option linter.all false
set_option maxRecDepth 100000
set_option maxHeartbeats 4000000
namespace FS
open PySem PySem.Spec PyProof.Rows L2
section
variable {prog : Program} {w : World} {A : Around} {E : Value → Shared → Prop} {s : Shared}
theorem back_applied {z : Addr} {n : Nat} {x y t : Value} {Q : Int × Int × Nat → Shared → Prop} (hs : s.heap.IsSliceOf z x y t) (hx : IsPart x none) (hy : IsPart y none) (ht : IsPart t (some (-1))) (h : Q ((n : Int) - 1, -1, n) s) :
    wpAny (model prog w) A (Builtin.Slice.sliceApplied (.ref z) (pure (n : Int))) Q E s := by
  obtain ⟨o, ho, _, hd⟩ := id hs
  unfold Builtin.Slice.sliceApplied Builtin.Slice.sliceFields
  refine wpAny_bind (wpAny_bind (wpAny_field ho hd (x := x) rfl (wpAny_bind (wpAny_field ho hd (x := y) rfl (wpAny_bind (wpAny_field ho hd (x := t) rfl (wpAny_pure ?_)))))))
  refine wpAny_bind (HT.slicePart_ ht ?_)
  have h0 : ¬ (((-1 : Int) == 0) = true) := by decide
  show wpAny _ _ (if ((-1 : Int) == 0) = true then _ else _) _ _ s
  rw [if_neg h0]
  refine wpAny_bind (HT.slicePart_ hx (wpAny_bind (HT.slicePart_ hy (wpAny_bind (wpAny_pure ?_)))))
  have e1 : Builtin.Slice.sliceAdjust none none (-1) (n : Int) = ((n : Int) - 1, -1) := rfl
  have e2 : Builtin.Slice.slicePlaces ((n : Int) - 1) (-1) (-1) = n := by
    unfold Builtin.Slice.slicePlaces
    rw [if_neg (by decide)]
    split
    · rw [show (-(-1) : Int) = 1 from rfl, Int.ediv_one]; omega
    · omega
  show wpAny _ _ (match Builtin.Slice.sliceAdjust none none (-1) (n : Int) with | (lo, hi) => pure (lo, (-1 : Int), Builtin.Slice.slicePlaces lo hi (-1))) _ _ s
  rw [e1]
  show wpAny _ _ (pure ((n : Int) - 1, (-1 : Int), Builtin.Slice.slicePlaces ((n : Int) - 1) (-1) (-1))) _ _ s
  rw [e2]
  exact wpAny_pure h
theorem back_pick {α : Type} (xs : Array α) : ((List.range xs.size).filterMap fun (m : Nat) => xs[((xs.size : Int) - 1 + (m : Int) * (-1)).toNat]?) = xs.toList.reverse := by
  have e : ∀ k, k ≤ xs.size → ((List.range k).filterMap fun (m : Nat) => xs[((xs.size : Int) - 1 + (m : Int) * (-1)).toNat]?) = (xs.toList.reverse).take k := by
    intro k
    induction k with
    | zero => intro _; rfl
    | succ k ih =>
      intro hk
      rw [List.range_succ, List.filterMap_append, ih (by omega), List.take_add_one]
      congr 1
      have h1 : ((xs.size : Int) - 1 + (k : Int) * (-1)).toNat = xs.size - 1 - k := by omega
      rw [List.filterMap_cons, h1, List.getElem?_reverse (by rw [Array.length_toList]; omega), Array.getElem?_toList, Array.length_toList]
      cases xs[xs.size - 1 - k]? <;> simp
  rw [e xs.size (Nat.le_refl _), List.take_of_length_le (by simp)]
theorem item_back {q z : Addr} {xs : Array Value} {x y t : Value} {Q : Value → Shared → Prop} (hq : IsTup s.heap q xs) (hs : s.heap.IsSliceOf z x y t) (hx : IsPart x none) (hy : IsPart y none) (ht : IsPart t (some (-1)))
    (h : Q (.ref s.heap.objs.size) { s with heap := s.heap.push { cls := .type "tuple", data := .seq xs.toList.reverse.toArray } }) (hz : xs.size ≤ sizeLine) : wpAny (model prog w) A (getItem (.ref q) (.ref z)) Q E s := by
  have hz2 : sizeOk (.seq xs.toList.reverse.toArray) := by
    show xs.toList.reverse.toArray.size ≤ sizeLine
    rw [List.size_toArray, List.length_reverse, Array.length_toList]
    exact hz
  obtain ⟨o, ho, hc, _⟩ := id hs
  have hT : s.TypeIs (.ref z) "slice" := ⟨o, ho, hc⟩
  unfold getItem
  (try with_reducible refine wpAny_holding ?_); (first | refine wpAny_bind (wpAny_pure ?_) | skip)
  refine wpAny_bind (wpAny_sequenceKey hq.typeIs (by decide) ?_)
  refine wpAny_bind (wpAny_callSpecial?_slot (name := Str.ofString "__getitem__") hq.typeIs PyProof.Rows.slot_tuple_getitem (wpAny_call_entry PyProof.Rows.slot_tuple_getitem hq.typeIs entry_tuple_getitem ?_ (args_tuple_getitem _ _)))
  show wpAny _ _ (Builtin.Tuple.tupleItemsOf (.ref q) >>= _) _ _ s
  refine wpAny_bind (tupleItemsOf_ hq ?_)
  refine wpAny_bind (wpAny_typeOf hT ?_)
  rw [if_pos (by decide)]
  refine wpAny_bind (back_applied hs hx hy ht ?_)
  have hn : ¬ ((((xs.size : Int) - 1) == 0 && (-1 : Int) == 1 && xs.size == xs.size) = true) := by
    intro e
    rw [Bool.and_eq_true, Bool.and_eq_true] at e
    exact absurd e.1.2 (by decide)
  show wpAny _ _ (if (((xs.size : Int) - 1) == 0 && (-1 : Int) == 1 && xs.size == xs.size) = true then _ else _) _ _ s
  rw [if_neg hn, back_pick]
  first
    | exact wpAny_bind (m := Builtin.Tuple.tupleExact _) (wpAny_newObj_type (wpAny_pure ⟨_, rfl, wpAny_pure h⟩) hz2)
    | exact wpAny_bind (m := Builtin.Tuple.tupleExact _) (wpAny_newObj_type (wpAny_bind (wpAny_pure (wpAny_pure ⟨_, rfl, wpAny_pure h⟩))) hz2)
    | exact wpAny_bind (wpAny_bind (m := Builtin.Tuple.tupleExact _) (wpAny_newObj_type (wpAny_pure (wpAny_pure ⟨_, rfl, wpAny_pure h⟩)) hz2))
    | exact wpAny_bind (wpAny_bind (m := Builtin.Tuple.tupleExact _) (wpAny_newObj_type (wpAny_pure ⟨_, rfl, wpAny_pure h⟩) hz2))
end
section
variable {X : Cx} {a : Expr} {f : G} {lo hi : Option Expr} {st : Expr} {pos p2 : Pos}
def tBack (K : PySem.W.Frag) (te : TE) (tl th ts : TO) : TE := fun σ H Q => te σ H fun x H1 => tl σ H1 fun l H2 => th σ H2 fun u H3 => ts σ H3 fun t H4 => ∃ q xs, x = .ref q ∧ l = none ∧ u = none ∧ t = some (-1) ∧ SqT K H4 q xs ∧
  ∀ p, H4 p = none → Q (.ref p) (upd H4 p (.tup xs.reverse))
theorem Vals.rev {xs : List V} {us : List Value} (h : Vals xs us) : Vals xs.reverse us.reverse := by
  induction h with
  | nil => exact .nil
  | cons r _ ih =>
    rw [List.reverse_cons, List.reverse_cons]
    exact ih.append (.cons r .nil)
theorem pe_back {te : TE} {tl th ts : TO} (he : PE X a te) (hl : PO X lo tl) (hu : PO X hi th) (hst : PO X (some st) ts) : PE X (.Subscript a (.Slice lo hi (some st) p2) pos) (tBack X.K te tl th ts) := by
  constructor
  intro pins s σ H Q I h
  apply Subscript_
  apply thn (he.run pins s σ H _ I h)
  rintro v s1 ⟨x, H1, I1, r1, q1⟩
  apply wpAny_Slice
  apply thn (hl.run pins s1 σ H1 _ I1 q1)
  rintro vl s2 ⟨l, H2, I2, pl, q2⟩
  apply thn (hu.run pins s2 σ H2 _ I2 q2)
  rintro vu s3 ⟨u, H3, I3, pu, q3⟩
  apply thn (hst.run pins s3 σ H3 _ I3 q3)
  rintro vt s4 ⟨tt, H4, I4, pt, q, xs, ex, el, eu, et, hx, q4⟩
  subst ex el eu et
  cases r1
  have I5 : L2.Inv X pins σ H4 { s4 with heap := s4.heap.push { cls := .type "slice", data := .fields #[vl, vu, vt] } } := I4.kept (t' := s4.toks) fun b ob q => Heap.get?_push_of_some _ q
  obtain ⟨its, r, ht, hzl⟩ := I5.tuple hx
  have go : wpAny (model X.prog X.w) X.A (getItem (.ref q) (.ref s4.heap.objs.size)) (EP X pins σ Q) X.xe { s4 with heap := s4.heap.push { cls := .type "slice", data := .fields #[vl, vu, vt] } } := by
    have hlen := r.length
    refine item_back ht (Heap.IsSliceOf.new ..) pl pu pt ?_ (by rw [List.size_toArray]; omega)
    refine ⟨.ref _, _, I5.laid (t' := s4.toks) (o := .tup xs.reverse) (fun b ob q => Heap.get?_push_of_some _ q) (Nat.le_refl _) ?_, rfl, q4 _ (I5.hok.fresh (Nat.le_refl _))⟩
    exact ⟨by rw [List.length_reverse]; omega, _, Vals.rev r, IsTup.new _ _⟩
  exact tail_any (ops := [.ref q, .ref s4.heap.objs.size]) ht.typeIs PyProof.Rows.slot_tuple_getitem.lookup go (by with_unfolding_all rfl)
/-- t[::-1] of a tuple -/
def cBack (f : G) (l u t : Gp) : G := fun ρ S => match f ρ S with
  | some (.tup xs, S1) => (match l ρ S1 with
    | some (none, S2) => (match u ρ S2 with
      | some (none, S3) => (match t ρ S3 with
        | some (some (-1), S4) => some (.tup xs.reverse, S4)
        | _ => none)
      | _ => none)
    | _ => none)
  | _ => none
theorem AtL.rev {K : KR} {ι : Nat → Addr} {N : Nat} {H : Hp} {ds : List D} {vs : List V} : AtL K ι N H ds vs → AtL K ι N H ds.reverse vs.reverse
  | .nil => .nil
  | .cons h t => by
    rw [List.reverse_cons, List.reverse_cons]
    exact t.rev.append (.cons h .nil)
theorem de_back {l u t : Gp} (ha : DE X a f) (hl : DO X lo l) (hu : DO X hi u) (ht : DO X (some st) t) : DE X (.Subscript a (.Slice lo hi (some st) p2) pos) (cBack f l u t) := by
  refine PE.imp (pe_back ha hl hu ht) ?_
  rintro σ H Q ⟨rs, ι, ρ, S, d, S', R, En, hf, k⟩
  unfold cBack at hf
  split at hf
  · rename_i xs S1 e1
    split at hf
    · rename_i S2 e2
      split at hf
      · rename_i S3 e3
        split at hf
        · rename_i S4 e4
          cases hf
          refine tE.go R En e1 fun ι1 H1 v E1 R1 En1 a1 => ?_
          refine ⟨rs, ι1, ρ, S1, none, S2, R1, En1, e2, fun ι2 H2 E2 R2 => ?_⟩
          refine ⟨rs, ι2, ρ, S2, none, S3, R2, En1.mono R1 E2, e3, fun ι3 H3 E3 R3 => ?_⟩
          refine ⟨rs, ι3, ρ, S3, some (-1), S', R3, (En1.mono R1 E2).mono R2 E3, e4, fun ι4 H4 E4 R4 => ?_⟩
          have a4 := ((a1.mono R1 E2).mono R2 E3).mono R3 E4
          cases a4 with
          | tup hq z l =>
            refine ⟨_, _, rfl, rfl, rfl, rfl, hq, fun p hp => ?_⟩
            exact (k.from (((E1.trans E2).trans E3).trans E4)).tup R4 hp (by rw [List.length_reverse]; exact z) l.rev
        · cases hf
      · cases hf
    · cases hf
  · cases hf
end
end FS
set_option Elab.async false
set_option linter.all false
set_option maxRecDepth 100000
set_option maxHeartbeats 4000000
namespace FS
open PySem PySem.Spec PyProof.Rows L2
section
variable {X : Cx} {a b : Expr} {f g : G} {pos : Pos}
/-- a + b of lists, a new list that may change -/
def cCatN (f g : G) : G := fun ρ S => match f ρ S with
  | none => none
  | some (x, S1) => match g ρ S1 with
    | none => none
    | some (y, S2) => match lmOf S2 x, lmOf S2 y with
      | some xs, some ys => if xs.length + ys.length ≤ sizeLine then some (.ref S2.length, S2 ++ [.lst (xs ++ ys)]) else none
      | _, _ => none
theorem de_catN (ha : DE X a f) (hb : DE X b g) : DE X (.BinOp a .Add b pos) (cCatN f g) := by
  refine PE.imp (pe_op op_cat ha hb) ?_
  rintro σ H Q ⟨rs, ι, ρ, S, d, S', R, En, hf, k⟩
  unfold cCatN at hf
  split at hf
  · cases hf
  · rename_i x S1 e1
    split at hf
    · cases hf
    · rename_i y S2 e2
      split at hf
      · rename_i xs ys e3 e4
        split at hf
        · rename_i hz
          cases hf
          refine tE.go R En e1 fun ι1 H1 v E1 R1 En1 a1 => ?_
          refine tE.go R1 En1 e2 fun ι2 H2 u E2 R2 En2 a2 => ?_
          obtain ⟨p1, v1, rfl, h1, z1, l1⟩ := lmOf_at R2 (a1.mono R1 E2) e3
          obtain ⟨p2, v2, rfl, h2, z2, l2⟩ := lmOf_at R2 a2 e4
          have n1 := l1.length
          have n2 := l2.length
          refine ⟨_, _, _, _, rfl, rfl, h1, h2, by omega, fun p hp => ?_⟩
          exact (k.from (E1.trans E2)).newL R2 hp (by rw [List.length_append]; omega) (l1.append l2)
        · cases hf
      · cases hf
end
/-- nothing is served: any statement, any def -/
def fNone : Fn := fun _ _ => none
theorem fg_none {P : Program} {w : World} {K : PySem.W.Frag} {mg : Str → Option Value} {base : Heap} {k : Nat} {f : Addr} {fd : FuncData} {ps : List Str} : FG P w K mg base k f fd ps fNone := by
  refine ⟨(fun ds S r h => by cases h), fun A outer s H args us vs Q hr hg e0 hb hv hs => ?_⟩
  obtain ⟨rs, ι, S0, ds, d, S', R, a, hF, pq⟩ := hs
  cases hF
def bNone : B := fun _ _ => none
theorem ds_none {X : Cx} {st : Stmt} : DS X st bNone := by
  refine ⟨fun pins s σ H D I q => ?_⟩
  obtain ⟨rs, ι, ρ, S, fl, ρ', S', R, En, hf, k⟩ := q
  cases hf
theorem de_none {X : Cx} {e : Expr} : DE X e (fun _ _ => none) := by
  refine ⟨fun pins s σ H Q I q => ?_⟩
  obtain ⟨rs, ι, ρ, S, d, S', R, En, hf, k⟩ := q
  cases hf
/-- a tuple of the module, of plain values -/
structure GTup (K : PySem.W.Frag) (mg : Str → Option Value) (x : Str) (ds : List D) : Prop where
  ex : ∃ (q : Addr) (o : Obj) (its : Array Value) (n : Nat) (vs : List V), mg x = some (.ref q) ∧ K.lookup q = some o ∧ o.cls = .type "tuple" ∧ o.data = .seq its n ∧ its.size ≤ sizeLine ∧ Vals vs its.toList ∧ (∀ K ι N H, AtL K ι N H ds vs) ∧ vs.length ≤ sizeLine
theorem GTup.de {X : Cx} {x : Str} {ds : List D} {pos : Pos} (h : GTup X.K X.mg x ds) (hg : Gl X x) (hdb : (x == ("__debug__" : Str)) = false := by decide) : DE X (.Name x pos) (cC (.tup ds)) := by
  obtain ⟨q, o, its, n, vs, h1, h2, h3, h4, h5, h6, h7, h8⟩ := h.ex
  exact de_gtup hg h1 h2 h3 h4 h5 h6 h7 h8 hdb
def strTs : List Str → List Tok → List Value
  | x :: xs, t :: ts => .str x t :: strTs xs ts
  | _, _ => []
theorem strTs_vals : ∀ (xs : List Str) (ts : List Tok), ts.length = xs.length → Vals (xs.map V.str) (strTs xs ts)
  | [], [], _ => .nil
  | x :: xs, t :: ts, h => .cons ⟨t, rfl⟩ (strTs_vals xs ts (by simpa using h))
  | [], _ :: _, h => by cases h
  | _ :: _, [], h => by cases h
theorem strs_at (xs : List Str) : ∀ (K : KR) (ι : Nat → Addr) (N : Nat) (H : Hp), AtL K ι N H (xs.map D.str) (xs.map V.str) := by
  intro K ι N H
  induction xs with
  | nil => exact .nil
  | cons x xs ih => exact .cons (.str x) ih
theorem gtup_mk {K : PySem.W.Frag} {mg : Str → Option Value} {x : Str} {q : Addr} {dd : Option Addr} {n : Nat} {sl : Array (Option Value)} {xs : List Str} {ts : List Tok} {its : Array Value} (hm : mg x = some (.ref q)) (hl : K.lookup q = some ⟨.type "tuple", dd, .seq its n, sl⟩)
    (hi : its.toList = strTs xs ts) (ht : ts.length = xs.length) (hx : xs.length ≤ 1000) : GTup K mg x (xs.map D.str) := by
  have hv := strTs_vals xs ts ht
  rw [← hi] at hv
  have hlen := hv.length
  rw [List.length_map] at hlen
  have h2 : its.toList.length = its.size := Array.length_toList
  exact ⟨q, _, its, n, xs.map V.str, hm, hl, rfl, rfl, by rw [sL]; omega, hv, strs_at xs, by rw [List.length_map, sL]; omega⟩
end FS
set_option Elab.async false
set_option linter.all false
set_option maxRecDepth 100000
set_option maxHeartbeats 4000000
namespace FS
open PySem PySem.Spec PyProof.Rows L2
/-! ### texts of common signs -/
def Asc (x : Str) : Prop := ∀ c ∈ x.cps.toList, c < 128
theorem Asc.append {x y : Str} (hx : Asc x) (hy : Asc y) : Asc (x ++ y) := by
  intro c h
  have : (x ++ y).cps.toList = x.cps.toList ++ y.cps.toList := by
    show (x.cps ++ y.cps).toList = _
    simp
  rw [this, List.mem_append] at h
  rcases h with h | h
  · exact hx c h
  · exact hy c h
theorem Asc.num (i : Int) : Asc (Str.ofString (toString i)) := by
  intro c h
  by_cases hc : c < 128
  · exact hc
  · exact absurd h (int_text_free' c ⟨by omega, by omega⟩ i)
theorem Asc.ok {x : Str} (h : Asc x) : PyData.strOk x = true := by
  unfold PyData.strOk
  rw [Array.all_eq_true_iff_forall_mem]
  intro c hc
  have := h c (by simpa using hc)
  simp only [decide_eq_true_eq]
  omega
theorem Asc.join {sep : Str} {ts : List Str} (hs : Asc sep) (h : ∀ t ∈ ts, Asc t) : Asc (Txt.join sep ts) := by
  intro c hc
  have e : Txt.join sep ts = Str.join sep ts := StrLaws.glued_eq_join sep ts
  rw [e, mem_join] at hc
  rcases hc with ⟨t, h1, h2⟩ | ⟨_, h2⟩
  · exact h t h1 c h2
  · exact hs c h2
theorem Asc.shown_len {x : Str} (h : Asc x) : (PyData.shown (.str x)).length ≤ 10 * x.length + 2 := by
  unfold PyData.shown
  exact StrLaws.reprText_len x fun c hc => Nat.lt_trans (h c hc) (by decide)
/-! ### data that can be shown and compared -/
def Nice (d : D) (k w : Nat) : Prop := ∃ p, pyD d = some p ∧ p.showable = true ∧ p.canLay0 = true ∧ p.depth ≤ k ∧ p.shown.length ≤ w
def NiceL (ds : List D) (k w : Nat) : Prop := ∃ ps, pyDs ds = some ps ∧ PyData.showableAll ps = true ∧ PyData.canLayAll0 ps = true ∧ PyData.depthAll ps ≤ k ∧ piled (PyData.shownAll ps) ≤ w
theorem Nice.non : Nice .non 0 4 := ⟨.none, by simp only [pyD], rfl, rfl, Nat.le_refl _, by decide +kernel⟩
theorem Nice.bl (b : Bool) : Nice (.bl b) 0 5 := ⟨.bool b, by simp only [pyD], rfl, rfl, Nat.le_refl _, by cases b <;> decide +kernel⟩
theorem Nice.int {i : Int} (h : i.natAbs.log2 < 1920) : Nice (.int i) 0 1921 := ⟨.int i, by simp only [pyD], by unfold PyData.showable; simpa using h, rfl, Nat.le_refl _, by unfold PyData.shown; exact int_text_len_1921 h⟩
theorem Nice.str {x : Str} {n : Nat} (h : Asc x) (hn : x.length ≤ n) : Nice (.str x) 0 (10 * n + 2) := ⟨.str x, by simp only [pyD], rfl, by unfold PyData.canLay0; exact h.ok, Nat.le_refl _, by have := h.shown_len; omega⟩
theorem NiceL.nil : NiceL [] 0 0 := ⟨[], by simp only [pyDs], rfl, rfl, Nat.le_refl _, Nat.le_refl _⟩
theorem Nice.mono {d : D} {k k' w w' : Nat} (h : Nice d k w) (hk : k ≤ k') (hw : w ≤ w') : Nice d k' w' := by
  obtain ⟨p, a, b, c, e, f⟩ := h
  exact ⟨p, a, b, c, Nat.le_trans e hk, Nat.le_trans f hw⟩
theorem NiceL.mono {d : List D} {k k' w w' : Nat} (h : NiceL d k w) (hk : k ≤ k') (hw : w ≤ w') : NiceL d k' w' := by
  obtain ⟨p, a, b, c, e, f⟩ := h
  exact ⟨p, a, b, c, Nat.le_trans e hk, Nat.le_trans f hw⟩
theorem NiceL.cons {d : D} {ds : List D} {k w w' : Nat} (h : Nice d k w) (t : NiceL ds k w') : NiceL (d :: ds) k (w + 2 + w') := by
  obtain ⟨p, a, b, c, e, f⟩ := h
  obtain ⟨ps, a', b', c', e', f'⟩ := t
  refine ⟨p :: ps, by simp only [pyDs, a, a'], by simp only [PyData.showableAll, b, b', Bool.and_self], by simp only [PyData.canLayAll0, c, c', Bool.and_self], by simp only [PyData.depthAll]; omega, ?_⟩
  simp only [PyData.shownAll, piled_cons]
  omega
theorem NiceL.all {k w : Nat} : ∀ {ds : List D}, (∀ d ∈ ds, Nice d k w) → NiceL ds k ((w + 2) * ds.length)
  | [], _ => NiceL.nil.mono (Nat.zero_le _) (Nat.zero_le _)
  | d :: ds, h => by
    refine (NiceL.cons (h d List.mem_cons_self) (NiceL.all fun x hx => h x (List.mem_cons_of_mem _ hx))).mono (Nat.le_refl _) ?_
    rw [List.length_cons, Nat.mul_succ]
    omega
theorem join_le (ts : List Str) : (Str.join ", " ts).length ≤ piled ts := by
  by_cases h : ts = []
  · subst h; exact Nat.zero_le _
  · have := join_length_add ts h
    omega
theorem Nice.tup {ds : List D} {k w : Nat} (h : NiceL ds k w) : Nice (.tup ds) (k + 1) (w + 3) := by
  obtain ⟨ps, a, b, c, e, f⟩ := h
  refine ⟨.tuple ps, by simp only [pyD, a, Option.map], by simpa only [PyData.showable] using b, by simpa only [PyData.canLay0] using c, by simp only [PyData.depth]; omega, ?_⟩
  simp only [PyData.shown]
  unfold tupleText
  rw [strLen_append, strLen_append]
  have e1 : ((("(" : String) : Str)).length = 1 := rfl
  have e3 : (((if (PyData.shownAll ps).length == 1 then ",)" else ")" : String) : Str)).length ≤ 2 := by split <;> decide
  have := join_le (PyData.shownAll ps)
  rw [e1]
  omega
theorem Nice.lst {ds : List D} {k w : Nat} (h : NiceL ds k w) : Nice (.lst ds) (k + 1) (w + 3) := by
  obtain ⟨ps, a, b, c, e, f⟩ := h
  refine ⟨.list ps, by simp only [pyD, a, Option.map], by simpa only [PyData.showable] using b, by simpa only [PyData.canLay0] using c, by simp only [PyData.depth]; omega, ?_⟩
  simp only [PyData.shown]
  rw [listText_eq_join]
  rw [strLen_append, strLen_append]
  have e1 : ((("[" : String) : Str)).length = 1 := rfl
  have e2 : ((("]" : String) : Str)).length = 1 := rfl
  have := join_le (PyData.shownAll ps)
  rw [e1, e2]
  omega
/-- the text of data -/
def rep (d : D) : Str := match pyD d with
  | some p => p.shown
  | none => .empty
theorem seen_nice {S : Sto} {d : D} {k w : Nat} (h : Nice d k w) : FS.seen S d = d := by
  cases d with
  | ref n => obtain ⟨p, a, _⟩ := h; simp only [pyD] at a; cases a
  | _ => rfl
theorem run_repr {S : Sto} {d : D} {k w : Nat} (h : Nice d k w) (hk : k ≤ 64) (hw : w ≤ 16777216) : reprO S [d] = some (.str (rep d)) := by
  have e0 := seen_nice (S := S) h
  obtain ⟨p, a, b, c, e, f⟩ := h
  show (match pyD (FS.seen S d) with | some p => _ | none => _) = _
  rw [e0]
  unfold rep
  simp only [a]
  rw [if_pos ⟨b, PyData.hasDict_of_canLay p c, by omega, by rw [sL]; omega⟩]
theorem Nice.rep_asc {d : D} {k w : Nat} (h : Nice d k w) : (rep d).length ≤ w := by
  obtain ⟨p, a, b, c, e, f⟩ := h
  unfold rep
  rw [a]
  exact f
theorem shaped_nice {d : D} {k w : Nat} {p : PyData} (h : Nice d k w) (hk : k ≤ 64) (e : pyD d = some p) : SeqAt.shaped p = true := by
  obtain ⟨q, a, b, c, d, f⟩ := h
  rw [e] at a
  cases a
  unfold SeqAt.shaped
  rw [c, Bool.true_and]
  exact decide_eq_true (by omega)
end FS
set_option Elab.async false
set_option linter.all false
set_option maxRecDepth 100000
set_option maxHeartbeats 4000000
namespace FS
open PySem PySem.Spec PyProof.Rows L2 PpSet
/-! ### sets of texts -/
def txt (e : Int × Value) : Str := match e.2 with
  | .str k _ => k
  | _ => .empty
def TxtE (w : World) (e : Int × Value) : Prop := ∃ k u, e.2 = .str k u ∧ e.1 = hashStr w k
/-- the set of texts at a: xs its members, in some order -/
def TextS (w : World) (h : Heap) (a : Addr) (xs : List Str) : Prop :=
  ∃ o es ep t, h.get? a = some o ∧ o.ExactSet ∧ o.data = .set es ep t ∧ (∀ e ∈ es.toList, TxtE w e) ∧ (es.toList.map txt).Perm xs ∧ xs.Nodup ∧ es.size < scanBound ∧ t.fits es.size = true ∧ Ris t.place.toList ∧ (w.params.followText "set-order" = true ∨ t.led = true)
section
variable {P : Program} {w : World} {A : Around} {E : Value → Shared → Prop} {s : Shared} {a : Addr} {xs : List Str}
theorem TextS.stay {h h' : Heap} (R : TextS w h a xs) (k : ∀ o, h.get? a = some o → h'.get? a = some o) : TextS w h' a xs := by
  obtain ⟨o, es, ep, t, ho, r⟩ := R
  exact ⟨o, es, ep, t, k o ho, r⟩
theorem txt_elems {l : List (Int × Value)} (g : ∀ e ∈ l, TxtE w e) : ElemsOf (PySem.strKind P w) l := fun e he => by
  obtain ⟨k, u, h1, h2⟩ := g e he
  exact ⟨⟨k, by rw [h1]; exact PySem.strKind_is P w k u, h2⟩, by rw [h1] <;> rfl⟩
theorem txt_is {e : Int × Value} (g : TxtE w e) (k : Str) : (PySem.strKind P w).is k e.2 = true ↔ txt e = k := by
  obtain ⟨k0, u, h1, _⟩ := g
  unfold txt
  rw [h1]
  show Value.isStrOf k (.str k0 u) = true ↔ k0 = k
  simp [Value.isStrOf]
theorem TextS.setOf {h : Heap} (R : TextS w h a xs) : h.SetOf (PySem.strKind P w) a (fun k => xs.contains k) xs.length := by
  obtain ⟨o, es, ep, t, ho, hx, hd, g, pm, nd, hb, hf, _⟩ := R
  refine ⟨o, es, ep, t, ho, hx, hd, txt_elems g, fun k => ?_, hb, hf, ?_⟩
  · rw [List.contains_iff_mem, ← pm.mem_iff, List.mem_map]
    exact ⟨fun ⟨e, he, q⟩ => ⟨e, he, (txt_is (g e he) k).2 q⟩, fun ⟨e, he, q⟩ => ⟨e, he, (txt_is (g e he) k).1 q⟩⟩
  · rw [← pm.length_eq, List.length_map, Array.length_toList]
/-- what is laid behind an add -/
theorem text_tail {g : Bool → Sem Unit} (hg : ∀ (b : Bool) (s1 : Shared) (Q' : Unit → Shared → Prop), Q' () s1 → wpAny (model P w) A (g b) Q' E s1)
    {o : Obj} {es : Array (Int × Value)} {ep : Nat} {t : SetTable} (ho : s.heap.get? a = some o) (hex : o.ExactSet) (hd : o.data = .set es ep t)
    {es1 : Array (Int × Value)} {t2 : SetTable} {ys : List Str} (g1 : ∀ e ∈ es1.toList, TxtE w e) (p1 : (es1.toList.map txt).Perm ys) (n1 : ys.Nodup)
    (hb1 : es1.size < scanBound) (hf2 : t2.fits es1.size = true) (hr : Ris t2.place.toList) (hl : w.params.followText "set-order" = true ∨ t2.led = true) {was : Bool} {R : Option Bool → Shared → Prop}
    (hR : ∀ h', Heap.SameBut a s.heap h' → TextS w h' a ys → R (some true) { s with heap := h' }) :
    wpAny (model P w) A (do
        storeSet a es1 t2
        if (!was && t2.tooFull) = true then do
            g (relayAll t2 es1 (SetTable.grown es1.size)).2.2
            storeSet a (relayAll t2 es1 (SetTable.grown es1.size)).1 (relayAll t2 es1 (SetTable.grown es1.size)).2.1
            pure (some true)
          else pure (some true)) R E s := by
  refine wpAny_bind (wpAny_storeSet_of ho hd ?_ (fits_of_scanBound hb1))
  have o1 := store_at (es' := es1) (t' := t2) ho hd
  have b1 := Heap.SameBut.update s.heap a (Obj.putSet es1 t2)
  split
  · have pm := relayAll_perm t2 es1 (SetTable.grown es1.size)
    have f3 := relayAll_fits t2 es1 (SetTable.grown es1.size)
    have r3 := relayAll_ris t2 es1 (SetTable.grown es1.size)
    have l3 := relayAll_led t2 es1 (SetTable.grown es1.size)
    generalize relayAll t2 es1 (SetTable.grown es1.size) = Z at pm f3 r3 l3 ⊢
    obtain ⟨es2, t3, gave⟩ := Z
    dsimp only at pm f3 r3 l3 ⊢
    have z2 : es2.size = es1.size := by rw [← Array.length_toList, pm.length_eq, Array.length_toList]
    have b2 : es2.size < scanBound := by omega
    refine wpAny_bind (hg _ _ _ (wpAny_bind (wpAny_storeSet_of o1 rfl ?_ (fits_of_scanBound b2))))
    have o2 := store_at (es' := es2) (t' := t3) o1 rfl
    exact wpAny_pure (hR _ (b1.trans (Heap.SameBut.update _ a _)) ⟨_, es2, _, t3, o2, hex, rfl, fun e he => g1 e (pm.mem_iff.mp he), (pm.map txt).trans p1, n1, b2, f3, r3, hl.imp id fun z => by rw [l3]; exact z⟩)
  · exact wpAny_pure (hR _ b1 ⟨_, es1, _, t2, o1, hex, rfl, g1, p1, n1, hb1, hf2, hr, hl⟩)
def addT (xs : List Str) (k : Str) : List Str := if xs.contains k then xs else k :: xs
theorem text_add_hashed {k : Str} {u : Tok} {Q : Bool → Shared → Prop} (R : TextS w s.heap a xs) (room : xs.length + 1 < scanBound)
    (hQ : ∀ h', Heap.SameBut a s.heap h' → TextS w h' a (addT xs k) → Q (!xs.contains k) { s with heap := h' }) :
    wpAny (model P w) A (setAddHashed a (.str k u) ((PySem.strKind P w).hash k)) Q E s := by
  obtain ⟨o, es, ep, t, ho, hex, hd, g, pm0, nd, hb, hf, hr, hl⟩ := R
  have hkey : (PySem.strKind P w).is k (.str k u) = true := PySem.strKind_is P w k u
  have hsc : (Value.str k u).scannable = true := rfl
  have hel : ElemsOf (PySem.strKind P w) es.toList := txt_elems g
  have hn : es.size = xs.length := by rw [← pm0.length_eq, List.length_map, Array.length_toList]
  (unfold setAddHashed setAddHashedIn)
  refine wpAny_holding (wpAny_bind (wpAny_setState_of ho hd hf ?_))
  (dsimp only; rw [byScan_of hsc hb hel])
  simp only [↓reduceIte]
  unfold setAddByScan
  refine wpAny_bind (wpAny_bind (wpAny_rule (wpAny_bind (wpAny_setScan_of hkey ho hd hf hel ?_))))
  cases hfi : List.findIdx? (fun e => (PySem.strKind P w).is k e.2) es.toList with
  | some j =>
    dsimp only
    obtain ⟨hj, pj, _⟩ := List.findIdx?_eq_some_iff_getElem.mp hfi
    have hmem : k ∈ xs := pm0.mem_iff.mp (List.mem_map.mpr ⟨es.toList[j], List.getElem_mem hj, (txt_is (g _ (List.getElem_mem hj)) k).1 pj⟩)
    have hc : xs.contains k = true := List.contains_iff_mem.mpr hmem
    have q := hQ s.heap (Heap.SameBut.refl a s.heap) (by unfold addT; rw [if_pos hc]; exact ⟨o, es, ep, t, ho, hex, hd, g, pm0, nd, hb, hf, hr, hl⟩)
    rw [hc] at q
    exact wpAny_pure (wpAny_pure q)
  | none =>
    dsimp only
    have hnot : k ∉ xs := fun z => by
      obtain ⟨e, he, q⟩ := List.mem_map.mp (pm0.mem_iff.mpr z)
      have c := List.findIdx?_eq_none_iff.mp hfi e he
      rw [(txt_is (g e he) k).2 q] at c
      cases c
    have hc : xs.contains k = false := by
      cases q : xs.contains k with
      | false => rfl
      | true => exact absurd (List.contains_iff_mem.mp q) hnot
    have ha : addT xs k = k :: xs := by unfold addT; rw [if_neg (by rw [hc]; exact Bool.false_ne_true)]
    have hgw : ∀ (b : Bool) {s1 : Shared} {Q' : Unit → Shared → Prop}, Q' () s1 → wpAny (model P w) A (match b with | true => rule "set.scan.the-table-gave-way" | false => pure ()) Q' E s1 := fun b s1 Q' q => by
      cases b <;> first | exact wpAny_pure q | exact wpAny_rule q
    have pm := layNew_perm t es ((PySem.strKind P w).hash k) (.str k u)
    have f1 := layNew_fits t es ((PySem.strKind P w).hash k) (.str k u)
    have r1 := layNew_ris t es ((PySem.strKind P w).hash k) (.str k u) hr
    have l1 := layNew_led t es ((PySem.strKind P w).hash k) (.str k u)
    generalize layNew t es ((PySem.strKind P w).hash k) (.str k u) = Z at pm f1 r1 l1 ⊢
    obtain ⟨es1, t1, was, gave⟩ := Z
    dsimp only at pm f1 r1 l1 ⊢
    rw [Array.toList_push] at pm
    have pc : es1.toList.Perm (((PySem.strKind P w).hash k, Value.str k u) :: es.toList) := pm.trans (List.perm_append_singleton _ _)
    have pk : (es1.toList.map txt).Perm (k :: xs) := (pc.map txt).trans (List.Perm.cons k pm0)
    have g1 : ∀ e ∈ es1.toList, TxtE w e := fun e he => by
      rcases List.mem_cons.mp (pc.mem_iff.mp he) with z | z
      · rw [z]; exact ⟨k, u, rfl, rfl⟩
      · exact g e z
    have z1 : es1.size = xs.length + 1 := by rw [← Array.length_toList, pc.length_eq, List.length_cons, Array.length_toList, hn]
    have b1 : es1.size < scanBound := by omega
    have ld : w.params.followText "set-order" = true ∨ t1.led = true := hl.imp id fun z => by rw [l1]; exact z
    have fin : ∀ h', Heap.SameBut a s.heap h' → TextS w h' a (k :: xs) → Q true { s with heap := h' } := fun h' sb r => by
      have q := hQ h' sb
      rw [hc, ha] at q
      exact q r
    refine wpAny_bind (hgw _ ?_)
    split
    · refine wpAny_bind ?_
      (rw [hashByValue_scannable 8 hsc]; refine wpAny_pure ?_)
      refine text_tail ?_ ho hex hd g1 pk (List.nodup_cons.mpr ⟨hnot, nd⟩) b1 ?_ ?_ ?_ ?_
      · intro b s1 Q' q; cases b <;> first | exact wpAny_pure q | exact wpAny_rule q
      · first | (split <;> first | exact f1 | exact SetTable.fits_plain_off f1) | exact f1
      · first | (split <;> exact r1) | exact r1
      · first | (split <;> exact ld) | exact ld
      · intro h' sb r; dsimp only; exact wpAny_pure (fin h' sb r)
    · refine wpAny_bind (wpAny_pure ?_)
      simp only [↓reduceIte]
      refine text_tail ?_ ho hex hd g1 pk (List.nodup_cons.mpr ⟨hnot, nd⟩) b1 f1 r1 ld ?_
      · intro b s1 Q' q; cases b <;> first | exact wpAny_pure q | exact wpAny_rule q
      · intro h' sb r; dsimp only; exact wpAny_pure (fin h' sb r)
/-- s.add(k) -/
theorem text_add {k : Str} {u : Tok} {Q : Value → Shared → Prop} (R : TextS w s.heap a xs) (room : xs.length + 1 < scanBound)
    (hQ : ∀ h', Heap.SameBut a s.heap h' → TextS w h' a (addT xs k) → Q .none { s with heap := h', toks := s.toks + 1 }) : wpAny (model P w) A (call (.builtin "set.add") [.ref a, .str k u]) Q E s := by
  have hS : s.heap.SetOf (PySem.strKind P w) a _ _ := R.setOf
  refine wpAny_call_entry F.slot_set_add hS.typeIs F.entry_set_add ?_ (F.args_set_add_2 _ _)
  (unfold Builtin.«set.add» Builtin.Frozenset.oneOther; simp only [List.isEmpty_nil, bind_assoc])
  unfold Builtin.Frozenset.addrOf setAdd
  refine wpAny_bind (wpAny_pure ?_)
  try dsimp only
  refine wpAny_bind (wpAny_pure ?_)
  try dsimp only
  refine wpAny_bind (wpAny_holding (wpAny_bind ((PySem.strKind P w).pyHash (PySem.strKind_is P w k u) ?_)))
  refine text_add_hashed (s := { s with toks := s.toks + 1 }) R room fun h' sb r => ?_
  show wpAny _ _ (ret Value.none) _ _ _
  exact wpAny_pure ⟨_, rfl, hQ h' sb r⟩
theorem texts_of : ∀ (l : List Value), (∀ v ∈ l, ∃ k u, v = Value.str k u) → ∃ ks, StrsAre l ks ∧ ks = l.map fun v => match v with | .str k _ => k | _ => .empty
  | [], _ => ⟨[], .nil, rfl⟩
  | v :: l, h => by
    obtain ⟨k, u, rfl⟩ := h v List.mem_cons_self
    obtain ⟨ks, h1, h2⟩ := texts_of l fun z hz => h z (List.mem_cons_of_mem _ hz)
    exact ⟨k :: ks, .cons k u h1, by rw [h2]; rfl⟩
/-- sorted(s) -/
theorem text_sorted {Q : Value → Shared → Prop} (R : TextS w s.heap a xs) (hh : A.handled = none) (h64 : xs.length < 64)
    (hQ : ∀ s' p (out : Array Value) (c : Nat) (ys : List Str), (∀ b o, s.heap.get? b = some o → s'.heap.get? b = some o) → s'.gens = s.gens → s'.os = s.os → s.heap.objs.size ≤ p →
      s'.heap.get? p = some (seqObj "list" out c) → StrsAre out.toList ys → sortedS ys = true → ys.Perm xs → Q (.ref p) s') : wpAny (model P w) A (call (.builtin "sorted") [.ref a]) Q E s := by
  obtain ⟨o, es, ep, t, ho, hex, hd, g, pm0, nd, hb, hf, hr, hl⟩ := R
  have hn : es.size = xs.length := by rw [← pm0.length_eq, List.length_map, Array.length_toList]
  refine Calls.call_function_entry kind_sorted plain_sorted entry_sorted (args_sorted1 _) ?_
  unfold Builtin.«sorted»
  refine wpAny_bind (m := checkCount "sorted" 1 1 _) (wpAny_pure ?_)
  refine wpAny_bind (collect_set (A := A.in1) hh ⟨o, ho, hex.1, hd⟩ hf hb hr hl fun s1 vs k1 hz g1 o1 pm => ?_)
  have hv : vs.length = xs.length := by rw [pm.length_eq, List.length_map, Array.length_toList]; exact hn
  obtain ⟨ks, hS, hks⟩ := texts_of vs fun v hv => by
    obtain ⟨e, he, q⟩ := List.mem_map.mp (pm.mem_iff.mp hv)
    obtain ⟨k, u, h1, _⟩ := g e he
    exact ⟨k, u, by rw [← q]; exact h1⟩
  have pk : ks.Perm xs := by
    rw [hks]
    have q := pm.map fun v => match v with | .str k _ => k | _ => Str.empty
    rw [List.map_map] at q
    exact q.trans pm0
  refine wpAny_bind (wpAny_newList ?_ (by rw [hv, sizeLine_eq]; omega))
  have hoL : (s1.heap.push (seqObj "list" vs.toArray 0)).get? s1.heap.objs.size = some (seqObj "list" vs.toArray 0) := Heap.get?_push_size _ rfl
  refine wpAny_bind (wpAny_holding (wpAny_call_entry slot_list_sort ⟨_, hoL, rfl⟩ entry_list_sort (list_sort_treeK strKind_oneLt hoL hS.keysOf (fun v1 v2 rest e => keyKind_strs (by rw [← e]; exact hS)) (by rw [hv]; exact h64) fun st' hp hs => ⟨_, rfl, ?_⟩) (args_list_sort _)))
  obtain ⟨ys, a1, a2, a3⟩ := sorted_out_str hS hp hs
  obtain ⟨c, hc⟩ := sortedHeap_at (vs := vs) (out := (arrOf st').map (·.2)) hoL
  refine wpAny_pure ⟨_, rfl, hQ _ s1.heap.objs.size _ c ys (fun b u e => ?_) g1 o1 hz hc a1 a3 (a2.trans pk)⟩
  have q := k1 b u e
  have lt := Heap.lt_size q
  show (sortedHeap (s1.heap.push (seqObj "list" vs.toArray 0)) s1.heap.objs.size vs _).get? b = some u
  rw [sortedHeap_old (Nat.ne_of_lt lt) (by rw [size_push']; exact Nat.lt_succ_of_lt lt)]
  exact Heap.get?_push_of_some _ q
end
/-- the set of texts at a, as a tracked thing -/
def TxO (w : World) (a : Addr) (xs : List Str) : HO := .ext fun h => TextS w h a xs
theorem txO_new {w : World} {P : Program} {H : Hp} {h : Heap} {a : Addr} {xs : List Str} (R : TextS w h a xs) : ObjOk P w H h a (TxO w a xs) := by
  have ⟨o, _, _, _, ho, _⟩ := R
  exact ⟨R, ⟨o, ho⟩, fun h1 h2 p k => TextS.stay p k⟩
section
variable {X : Cx} {pins : List (Addr × Obj)} {σ : L2.St} {H : Hp} {s : Shared}
theorem txO_get {a : Addr} {xs : List Str} (I : Inv X pins σ H s) (ha : H a = some (TxO X.w a xs)) : TextS X.w s.heap a xs := (I.hok a _ ha).1
theorem addT_ok {E : Value → Shared → Prop} {D : Addr} {xs : List Str} {k : Str} {u : Tok} {Q : Value → Shared → Prop} (I : Inv X pins σ H s) (hD : H D = some (TxO X.w D xs)) (room : xs.length + 1 < scanBound)
    (h : ∀ s', Inv X pins σ (upd H D (TxO X.w D (addT xs k))) s' → Q .none s') : wpAny (model X.prog X.w) X.A (call (.builtin "set.add") [.ref D, .str k u]) Q E s := by
  refine text_add (txO_get I hD) room fun h' sb new => ?_
  have he : ∃ v, h'.get? D = some v := by
    have ⟨o, _, _, _, ho, _⟩ := new
    exact ⟨o, ho⟩
  exact h _ (I.write (e := D) (t' := s.toks + 1) (by rw [hD]; trivial) (.inl rfl) (fun b v hb hv => (sb.2 b hb).trans hv) he (txO_new new))
def rSortTx (w : World) : List V → Hp → VK → Prop := fun vs H Q => ∃ (a : Addr) (xs : List Str), vs = [V.ref a] ∧ H a = some (TxO w a xs) ∧ xs.length < 64 ∧
  ∀ (ys : List Str) (p : Addr), sortedS ys = true → ys.Perm xs → H p = none → Q (.ref p) (upd H p (.lst (ys.map V.str)))
theorem cr_sortTx (hc : X.calm = true) : CallR X (.builtin "sorted") (rSortTx X.w) := by
  rintro pins s σ H vs us Q I r ⟨a, xs, rfl, ha, h64, q⟩
  rw [Vals.ref1 r]
  refine text_sorted (txO_get I ha) (I.ok.hd hc) h64 fun s' p out c ys k hg ho hp hO hS srt pm => ?_
  have z : (ys.map V.str).length ≤ sizeLine := by rw [List.length_map, pm.length_eq, sizeLine_eq]; omega
  have n0 : H p = none := I.hok.fresh hp
  have J : Inv X pins σ (upd H p (.lst (ys.map V.str))) { s with heap := s'.heap, gens := s'.gens, drawn := s'.drawn, toks := s'.toks } :=
    I.call (ch := []) (Un.laid k hp n0) (I.hok.laid k hp ⟨z, out.toList, c, vals_of_strs hS, hO⟩) (by rw [hg]; exact I.bare) (fun _ y => nomatch y)
  have e : s' = { s with heap := s'.heap, gens := s'.gens, drawn := s'.drawn, toks := s'.toks } := by
    cases s'; cases s; cases ho; rfl
  rw [e]
  exact ⟨.ref p, _, J, rfl, q ys p srt pm n0⟩
theorem text_fresh {h : Heap} (w : World) : TextS w (h.push { cls := .type "set", dict := none, data := .set #[] 0 (.fresh 0 0 (!w.params.followText "set-order")) }) h.objs.size [] := by
  obtain ⟨o, es, ep, t, ho, hx, hd, g, nd, hm, hb, hf, hn, hr, hl⟩ := setR_fresh (h := h) w
  have e : es.toList = [] := by
    have : es.size = 0 := hn
    exact List.eq_nil_of_length_eq_zero (by rw [Array.length_toList]; exact this)
  exact ⟨o, es, ep, t, ho, hx, hd, (fun x hx => by rw [e] at hx; cases hx), (by rw [e]; exact List.Perm.nil), List.nodup_nil, hb, hf, hr, hl⟩
/-- {e for t in src if c}, e a text -/
def tScT (w : World) (wi : TI) (g : TG) (tt : TT) (te : TE) (vs : List Nat) : TE := fun σ H Q => wi σ H fun J H1 => ∀ D, H1 D = none → ∃ W : Nat → Nat → Hp → Prop, (∃ m, W 0 m (upd H1 D (TxO w D []))) ∧ ∀ i m H, W i m H →
  (J.stop i H ∧ Q (.ref D) H) ∨ (J.go i H ∧ ∃ Nx : Hp → Prop, (∀ H', Nx H' → ∃ m', m' < m ∧ W (i + 1) m' H') ∧ ∀ x H', J.yld i H x H' → g x (wipe σ vs) H' fun σ2 H2 => wipe σ2 vs = wipe σ vs ∧ tt σ2 H2 fun b H3 =>
    if b = true then te σ2 H3 fun y H4 => ∃ (k : Str) (xs : List Str), y = .str k ∧ H4 D = some (TxO w D xs) ∧ xs.length + 1 < scanBound ∧ Nx (upd H4 D (TxO w D (addT xs k))) else Nx H3)
theorem pe_scT {elt tg iter : Expr} {ifs : List Expr} {scope : Scope} {own : List (PySem.Str × Nat)} {pos : Pos} {wi : TI} {g : TG} {tt : TT} {te : TE} (hc : X.calm = true) (hN : X.N.Nodup) (hi : PI X tg iter wi) (ok : BlkOk X.N X.env.scope scope own)
    (hg : ∀ (s : Shared) (H : Hp) (C : Addr) (cl : List (PySem.Str × Addr)) (fp : List Addr), PG (X.blk s H scope (compEnvC scope cl C X.env) fp) tg g) (ht : ∀ (s : Shared) (H : Hp) (C : Addr) (cl : List (PySem.Str × Addr)) (fp : List Addr), PTs (X.blk s H scope (compEnvC scope cl C X.env) fp) ifs tt)
    (he : ∀ (s : Shared) (H : Hp) (C : Addr) (cl : List (PySem.Str × Addr)) (fp : List Addr), PE (X.blk s H scope (compEnvC scope cl C X.env) fp) elt te) (hs : ∀ x, foldedSetIterable iter X.env x = pure x := by intro _; rfl) :
    PE X (.SetComp elt [⟨tg, iter, ifs, 0⟩] scope pos) (tScT X.w wi g tt te (own.map (·.2))) := by
  constructor
  intro pins s σ H Q I h
  rw [eval_SetComp]
  have free : ∀ y ∈ scope.names, y.2 = .free → ∃ c, X.env.cells.lookup y.1 = some c := fun y hy e => by
    rcases ok.free y hy e with k | k
    · exact I.ok.has _ (.inl k)
    · exact I.ok.has _ (.inr k)
  refine wpAny_comprehension_free (use := none) rfl hs (closure_ok free) ok.kind (fun y hy e => by rw [ok.uniq y hy, e]) (thn (hi.run pins s σ H _ I h) fun _ sa hx => thn hx fun _ sb hb => ?_)
  obtain ⟨it, fp, tn, J, Hb, e, Ib, T, stb, fb, q⟩ := hb
  subst e
  refine newSet_ok (newEnv_comp ?_)
  generalize hD : sb.heap.objs.size = D
  have dn : Hb D = none := Ib.hok.fresh (Nat.le_of_eq hD)
  obtain ⟨W, ⟨m0, w0⟩, turn⟩ := q D dn
  generalize hsc : ({ sb with heap := sb.heap.push { cls := .type "set", dict := none, data := .set #[] 0 (.fresh 0 0 (!X.w.params.followText "set-order")) } } : Shared) = sc
  have hc3 : sc.heap = sb.heap.push { cls := .type "set", dict := none, data := .set #[] 0 (.fresh 0 0 (!X.w.params.followText "set-order")) } := by rw [← hsc]
  have Ic : Inv X pins σ (upd Hb D (TxO X.w D [])) sc := by
    rw [← hsc]
    refine Ib.laid (t' := sb.toks) (fun b o e => Heap.get?_push_of_some _ e) (Nat.le_of_eq hD) ?_
    (rw [← hD]; exact txO_new (text_fresh X.w))
  generalize hHc : upd Hb D (TxO X.w D []) = Hc at Ic w0
  have fc : ∀ b ∈ fp, FpOk X pins Hc b ∧ b < sc.heap.objs.size := fun b hb => by
    obtain ⟨o, e, _⟩ := T.obj _ _ stb b hb
    have lt := Heap.lt_size e
    refine ⟨⟨?_, (fb b hb).2⟩, by rw [hc3, Heap.size_push]; exact Nat.lt_succ_of_lt lt⟩
    rw [← hHc, upd_ne (by rw [← hD]; exact Nat.ne_of_lt lt)]
    exact (fb b hb).1
  have stc : tn 0 sc.heap := T.keep _ _ _ stb fun b _ o e => by rw [hc3]; exact Heap.get?_push_of_some _ e
  have Id := block_start Ic ok hN fc
  have nfp : ∀ b ∈ fp, Hc b = none := fun b hb => (fc b hb).1.1
  have pg := hg sc Hc sc.heap.objs.size (cellsFrom (sc.heap.objs.size + 1) scope.names (cloFrom X.env.cells scope.names [])) fp
  have pt := ht sc Hc sc.heap.objs.size (cellsFrom (sc.heap.objs.size + 1) scope.names (cloFrom X.env.cells scope.names [])) fp
  have pe := he sc Hc sc.heap.objs.size (cellsFrom (sc.heap.objs.size + 1) scope.names (cloFrom X.env.cells scope.names [])) fp
  show codeAny _ _ (.compStart (.SetComp elt [⟨tg, iter, ifs, 0⟩] scope pos) 0 (.ref it) (.ref D) (compEnvC scope (cellsFrom (sc.heap.objs.size + 1) scope.names (cloFrom X.env.cells scope.names [])) sc.heap.objs.size X.env)) (compPost (model X.prog X.w) X.A X.xe none (EP X pins σ Q) (.ref D) sc.heap.objs.size) { sc with heap := pushCells (sc.heap.push { cls := .type "dict", data := .dict #[] }) scope.names }
  generalize hce : compEnvC scope (cellsFrom (sc.heap.objs.size + 1) scope.names (cloFrom X.env.cells scope.names [])) sc.heap.objs.size X.env = ce at Id pg pt pe ⊢
  have cL : ce.locals = sc.heap.objs.size := by subst hce; rfl
  generalize hsd : ({ sc with heap := pushCells (sc.heap.push { cls := .type "dict", data := .dict #[] }) scope.names } : Shared) = sd at Id ⊢
  have std : tn 0 sd.heap := T.keep _ _ _ stc fun b _ o e => by rw [← hsd]; exact pushCells_keeps _ _ _ _ (Heap.get?_push_of_some _ e)
  have own' : ∀ {σ' : L2.St} {H' : Hp} {s' : Shared}, Inv (X.blk sc Hc scope ce fp) [] σ' H' s' → (∀ b ∈ fp, H' b = none) → ∀ b ∈ fp, FpOk (X.blk sc Hc scope ce fp) [] H' b := fun {σ' H' s'} I' n b hb =>
    ⟨n b hb, (I'.ok.exf b hb).1, I'.ok.exfs b hb, .inl hb, (fun x c e => (I'.ok.exf b hb).2 x c e), fun p hp => absurd (show p ∈ ([] : List (Addr × Obj)) ++ [] from hp) (by simp)⟩
  have loop : codeAny (model X.prog X.w) X.A (.compLoop (.SetComp elt [⟨tg, iter, ifs, 0⟩] scope pos) 0 (.ref it) (.ref D) ce) (compPost (model X.prog X.w) X.A X.xe none (EP X pins σ Q) (.ref D) sc.heap.objs.size) sd := by
    refine compLoopS_any (fun n s' => ∃ i H', Inv (X.blk sc Hc scope ce fp) [] (wipe σ (own.map (·.2))) H' s' ∧ tn i s'.heap ∧ (∀ b ∈ fp, H' b = none) ∧ W i n H') ?_ m0 ⟨0, Hc, Id, std, nfp, w0⟩
    rintro n se ⟨i, He, Ie, ste, ne, we⟩
    rcases turn i n He we with ⟨stop, qq⟩ | ⟨go, Nx, hNx, step⟩
    · refine thnF (T.done (X.blk sc Hc scope ce fp) rfl rfl rfl hc i [] se _ He (fun _ _ => False) Ie (own' Ie ne) ste stop) fun r sf ⟨hr, If⟩ => ?_
      subst hr
      have Ig : Inv X pins σ He sf := Ic.call' (ch := fp) If.os If.base If.hok If.bare fun b hb => ⟨(fc b hb).1.2.2.2.1, (fc b hb).1.2.1, (fc b hb).1.2.2.2.2.1, (fc b hb).1.2.2.2.2.2⟩
      have nC : He sc.heap.objs.size = none := by
        have z : He ce.locals = none := If.free
        rwa [cL] at z
      obtain ⟨m, hn, _⟩ := If.loc
      have hm : sf.heap.Ns ce.locals m := hn
      rw [cL] at hm
      obtain ⟨f0, f1, f2, f3, f4, f5⟩ := Ic.fpOk (Nat.le_refl _) nC
      exact ⟨m, hm, fun h'' sb => ⟨.ref D, He, Ig.turned (t' := sf.toks) (fun b o hb e => (sb.2 b hb).trans e) f0 f1 f3 f4 f5, rfl, qq⟩⟩
    · refine thnF (T.item (X.blk sc Hc scope ce fp) rfl rfl rfl hc i [] se _ He (fun _ _ => False) Ie (own' Ie ne) ste go) fun r sf ⟨u, hr, hf⟩ => ?_
      subst hr
      refine thnF hf fun _ sg ⟨x, Hg, Ig, rg, yg, stg, ng⟩ => ?_
      refine thnF (pg.run _ sg _ Hg x u _ (Ig.pinned (own' Ig ng) (T.obj _ _ stg)) rg (step x Hg yg)) fun _ sh ⟨σh, Hh, Ih, wh, qh⟩ => ?_
      refine thnF (pt.run _ sh σh Hh _ Ih qh) fun b si ⟨Hi, Ii, qi⟩ => ?_
      have fin : ∀ {s' : Shared} {H' : Hp}, Inv (X.blk sc Hc scope ce fp) ([] ++ pinsAt fp sg.heap) σh H' s' → Nx H' → ∃ m, m < n ∧ ∃ i H', Inv (X.blk sc Hc scope ce fp) [] (wipe σ (own.map (·.2))) H' s' ∧ tn i s'.heap ∧ (∀ b ∈ fp, H' b = none) ∧ W i m H' := fun {s' H'} I' nx => by
        obtain ⟨m', hm, w'⟩ := hNx H' nx
        have pin : ∀ b ∈ fp, ∀ o, sg.heap.get? b = some o → s'.heap.get? b = some o ∧ H' b = none := fun b hb o e =>
          let z := I'.pin (b, o) (List.mem_append_right _ (List.mem_append_right _ (mem_pinsAt hb e)))
          ⟨z.1, z.2.1⟩
        have hl : (wipe σ (own.map (·.2))).length = σh.length := by rw [← wh, wipe_length]
        refine ⟨m', hm, i + 1, H', (I'.unpinned (pins := [])).weak hl (fun j v e => by rw [← wh] at e; exact (wipe_some e).1), T.keep _ _ _ stg fun b hb o e => (pin b hb o e).1, (fun b hb => ?_), w'⟩
        obtain ⟨o, e, _⟩ := T.obj _ _ stg b hb
        exact (pin b hb o e).2
      cases b with
      | false => simp only [Bool.false_eq_true, if_false] at qi ⊢; exact fin Ii qi
      | true =>
        simp only [if_true] at qi ⊢
        refine thnF (pe.run _ si σh Hi _ Ii qi) fun z sj ⟨yv, Hj, Ij, rj, k, xs, ey, hDj, room, nx⟩ => ?_
        subst ey
        obtain ⟨tk, rfl⟩ := rj
        exact addT_ok (X := X.blk sc Hc scope ce fp) Ij hDj room fun sk Ik => fin Ik nx
  exact codeAny_compStart_set loop (T.self X.A 0 _ _ _ std loop)
end
end FS
set_option Elab.async false
set_option linter.all false
set_option maxRecDepth 100000
set_option maxHeartbeats 4000000
namespace FS
open PySem PySem.Spec PyProof.Rows L2 PpSet
/-! ### sorted texts, each once -/
def leT (a b : Str) : Prop := a.cps.toList ≤ b.cps.toList
theorem leT_of {a b : Str} (h : ltCps b.cps.toList a.cps.toList = false) : leT a b := by
  rw [ltCps_eq, decide_eq_false_iff_not] at h
  exact List.not_lt.mp h
theorem leT.trans {a b c : Str} (h : leT a b) (k : leT b c) : leT a c := List.le_trans h k
theorem leT.anti {a b : Str} (h : leT a b) (k : leT b a) : a = b := by
  have e := List.le_antisymm h k
  cases a
  cases b
  congr 1
  exact Array.toList_inj.mp e
theorem rising_pair : ∀ (p : Str) (r : List Str), risingS p r = true → (p :: r).Pairwise leT
  | p, [], _ => List.pairwise_singleton _ _
  | p, x :: r, h => by
    simp only [risingS, Bool.and_eq_true, Bool.not_eq_true'] at h
    have ih := rising_pair x r h.2
    have hx := leT_of h.1
    refine List.pairwise_cons.mpr ⟨fun y hy => ?_, ih⟩
    rcases List.mem_cons.mp hy with rfl | hy
    · exact hx
    · exact hx.trans ((List.pairwise_cons.mp ih).1 y hy)
theorem sorted_pair : ∀ (l : List Str), sortedS l = true → l.Pairwise leT
  | [], _ => List.Pairwise.nil
  | x :: r, h => rising_pair x r h
theorem sorted_one : ∀ (l m : List Str), l.Pairwise leT → m.Pairwise leT → l.Perm m → l = m
  | [], m, _, _, p => p.nil_eq
  | x :: l, [], _, _, p => absurd p.length_eq (by simp)
  | x :: l, y :: m, hl, hm, p => by
    obtain ⟨h1, h2⟩ := List.pairwise_cons.mp hl
    obtain ⟨k1, k2⟩ := List.pairwise_cons.mp hm
    have e : x = y := by
      rcases List.mem_cons.mp (p.mem_iff.mp (List.mem_cons_self (a := x) (l := l))) with e | hx
      · exact e
      · rcases List.mem_cons.mp (p.mem_iff.mpr (List.mem_cons_self (a := y) (l := m))) with e | hy
        · exact e.symm
        · exact (h1 y hy).anti (k1 x hx)
    subst e
    rw [sorted_one l m h2 k2 (List.Perm.cons_inv p)]
/-- the texts, each once, in order -/
def insT (x : Str) : List Str → List Str
  | [] => [x]
  | y :: l => if ltCps y.cps.toList x.cps.toList = true then y :: insT x l else x :: y :: l
def sortT : List Str → List Str
  | [] => []
  | x :: l => insT x (sortT l)
theorem insT_perm (x : Str) : ∀ l, (insT x l).Perm (x :: l)
  | [] => List.Perm.refl _
  | y :: l => by
    unfold insT
    split
    · exact ((insT_perm x l).cons y).trans (List.Perm.swap x y l)
    · exact List.Perm.refl _
theorem sortT_perm : ∀ l, (sortT l).Perm l
  | [] => List.Perm.refl _
  | x :: l => (insT_perm x _).trans ((sortT_perm l).cons x)
theorem insT_sorted (x : Str) : ∀ l, l.Pairwise leT → (insT x l).Pairwise leT
  | [], _ => List.pairwise_singleton _ _
  | y :: l, h => by
    obtain ⟨h1, h2⟩ := List.pairwise_cons.mp h
    unfold insT
    split
    · rename_i hlt
      refine List.pairwise_cons.mpr ⟨fun z hz => ?_, insT_sorted x l h2⟩
      rcases List.mem_cons.mp ((insT_perm x l).mem_iff.mp hz) with rfl | hz
      · rw [ltCps_eq, decide_eq_true_eq] at hlt
        exact List.le_of_lt hlt
      · exact h1 z hz
    · rename_i hge
      have hx : leT x y := leT_of (by simpa using hge)
      refine List.pairwise_cons.mpr ⟨fun z hz => ?_, h⟩
      rcases List.mem_cons.mp hz with rfl | hz
      · exact hx
      · exact hx.trans (h1 z hz)
theorem sortT_sorted : ∀ l, (sortT l).Pairwise leT
  | [] => List.Pairwise.nil
  | x :: l => insT_sorted x _ (sortT_sorted l)
def setT (ss : List Str) : List Str := ss.foldl addT []
theorem setT_snoc (ss : List Str) (k : Str) : setT (ss ++ [k]) = addT (setT ss) k := by
  unfold setT
  rw [List.foldl_append]
  rfl
theorem addT_len (xs : List Str) (k : Str) : (addT xs k).length ≤ xs.length + 1 := by
  unfold addT
  split
  · omega
  · exact Nat.le_refl _
theorem setT_len (ss : List Str) : (setT ss).length ≤ ss.length := by
  have : ∀ (l acc : List Str), (l.foldl addT acc).length ≤ acc.length + l.length := by
    intro l
    induction l with
    | nil => intro acc; exact Nat.le_refl _
    | cons x l ih =>
      intro acc
      have h1 := ih (addT acc x)
      have h2 := addT_len acc x
      rw [List.foldl_cons, List.length_cons]
      omega
  have h := this ss []
  rwa [List.length_nil, Nat.zero_add] at h
theorem sortT_of {ss ys : List Str} (h : sortedS ys = true) (p : ys.Perm (setT ss)) : ys = sortT (setT ss) := sorted_one _ _ (sorted_pair _ h) (sortT_sorted _) (p.trans (sortT_perm _).symm)
end FS
set_option Elab.async false
set_option linter.all false
set_option maxRecDepth 100000
set_option maxHeartbeats 4000000
namespace FS
open PySem PySem.Spec PyProof.Rows L2 PpSet
/-- sorted({e for t in src if c}), texts -/
def cSortS (src : Src) (t : Tg) (c : Gb) (f : G) (vs : List Nat) : G := fun ρ S => match src ρ S with
  | none => none
  | some (xs, w, S1) => match lcB t c f (still xs w) (wipeR ρ vs) xs S1 with
    | none => none
    | some (ds, S2) => match strsD ds with
      | some ss => if ss.length < 64 then some (.lst ((sortT (setT ss)).map .str), S2) else none
      | none => none
theorem strsD_strs (l : List Str) : strsD (l.map D.str) = some l := by
  induction l with
  | nil => rfl
  | cons x l ih => simp only [List.map_cons, strsD, ih, Option.map]
theorem strs_mid {l : List Str} {d : D} {r : List D} {ss : List Str} (h : strsD (l.map D.str ++ d :: r) = some ss) : ∃ k, d = .str k ∧ l.length + 1 ≤ ss.length := by
  induction l generalizing ss with
  | nil =>
    cases d with
    | str k =>
      simp only [List.map_nil, List.nil_append, strsD] at h
      obtain ⟨s2, _, e2⟩ := Option.map_eq_some_iff.mp h
      subst e2
      exact ⟨k, rfl, by simp⟩
    | _ => simp only [List.map_nil, List.nil_append, strsD] at h; cases h
  | cons x l ih =>
    simp only [List.map_cons, List.cons_append, strsD] at h
    obtain ⟨s2, e1, e2⟩ := Option.map_eq_some_iff.mp h
    subst e2
    obtain ⟨k, hk, hl⟩ := ih e1
    exact ⟨k, hk, by simp only [List.length_cons]; omega⟩
theorem Rel.offN {K : KR} {ι : Nat → Addr} {S : Sto} {H : Hp} {D0 : Addr} {o : HO} (hr : K.rs D0) (nr : ∀ m, m < S.length → ι m ≠ D0) (nt : ∀ vs, H D0 ≠ some (.tup vs)) (nf : ∀ a b, H D0 ≠ some (.frz a b)) (R : Rel K ι S H) : Rel K ι S (upd H D0 o) := by
  refine ⟨R.inj, fun n u e => ?_, fun a h => ?_⟩
  · have hn := (List.getElem?_eq_some_iff.mp e).1
    have := R.obj n u e
    cases u with
    | lst ds =>
      obtain ⟨vs, q1, q2, q3⟩ := this
      exact ⟨vs, by rw [upd_ne (nr n hn)]; exact q1, q2.offD hr nr nt nf, q3⟩
    | dct kvs =>
      obtain ⟨vs, q1, q2, q3⟩ := this
      exact ⟨vs, by rw [upd_ne (nr n hn)]; exact q1, Paired.mapP q2 fun _ _ z => ⟨z.1, z.2.offD hr nr nt nf⟩, q3⟩
  · by_cases e : a = D0
    · exact ⟨o, by rw [e, upd_same]⟩
    · obtain ⟨u, q⟩ := R.res a h
      exact ⟨u, by rw [upd_ne e]; exact q⟩
section
variable {X : Cx} {elt tg iter : Expr} {ifs : List Expr} {scope : Scope} {own : List (Str × Nat)} {pos : Pos} {src : Src} {t : Tg} {ix : List Nat} {ft : Gb} {fe : G}
theorem cSortS_of {K : PySem.W.Frag} {wd : World} {vs : List Nat} (hix : ∀ i ∈ ix, i ∈ vs) : ∀ σ H Q, tE K (cSortS src t ft fe vs) σ H Q → tScT wd (tI K src) (tG K t ix) (tT K ft) (tE K fe) vs σ H (fun x H1 => rSortTx wd [x] H1 Q) := by
  rintro σ H Q ⟨rs, ι, ρ, S, d, S', R, En, hf, kk⟩
  unfold cSortS at hf
  split at hf
  · cases hf
  rename_i xs w S1 e1
  split at hf
  · cases hf
  rename_i ds S2 e2
  split at hf
  case h_2 => cases hf
  rename_i ss ess
  split at hf
  case isFalse => cases hf
  rename_i hss
  cases hf
  refine ⟨rs, ι, ρ, S, xs, w, S1, R, En, e1, fun ι1 H1 J E1 R1 st1 y D0 hD => ?_⟩
  have En1 := (En.mono R E1)
  -- the new list is reserved
  have hw : ∀ a o, H1 a = some o → (rs a ∨ a = D0) → rs a := fun a o q z => z.elim id fun e => by rw [e, hD] at q; cases q
  have R1' : Rel ⟨K, fun a => rs a ∨ a = D0⟩ ι1 S1 (upd H1 D0 (TxO wd D0 [])) := by
    refine ⟨R1.inj, fun n u e => ((R1.obj n u e).wide hw).mono R1 (Ext.fresh hD) (by rw [upd_ne (R1.ne_none hD n (List.getElem?_eq_some_iff.mp e).1)]), fun a h => ?_⟩
    rcases h with h | h
    · obtain ⟨u, q⟩ := R1.res a h
      exact ⟨u, by rw [upd_ne (ne_of_none q hD)]; exact q⟩
    · exact ⟨_, by rw [h, upd_same]⟩
  have En1' : EnvAt ⟨K, fun a => rs a ∨ a = D0⟩ ι1 S1.length (upd H1 D0 (TxO wd D0 [])) ρ σ := ⟨En1.1, fun i d e => let ⟨v, q, a⟩ := En1.2 i d e; ⟨v, q, (a.wide hw).mono R1 (Ext.fresh hD)⟩⟩
  have nd1 : ∀ m, m < S1.length → ι1 m ≠ D0 := R1.ne_none hD
  refine ⟨fun i m H2 => m = xs.length - i ∧ i ≤ xs.length ∧ ∃ ι2 S3 accs rest, Ext ι1 S1.length H1 ι2 S3.length H2 ∧ Rel ⟨K, fun a => rs a ∨ a = D0⟩ ι2 S3 H2 ∧ H2 D0 = some (TxO wd D0 (setT accs)) ∧ (∀ m, m < S3.length → ι2 m ≠ D0) ∧
    still xs w S3 = true ∧ lcB t ft fe (still xs w) (wipeR ρ vs) (xs.drop i) S3 = some (rest, S') ∧ ds = accs.map D.str ++ rest,
    ⟨xs.length, by simp, Nat.zero_le _, ι1, S1, [], ds, Ext.fresh hD, R1', upd_same, nd1, st1, e2, rfl⟩, ?_⟩
  rintro i m H2 ⟨rfl, hi, ι2, S3, accs, rest, E2, R2, hD2, nd2, st2, hf2, eds⟩
  by_cases hlt : i < xs.length
  · refine .inr ⟨y.go _ ι2 S3 H2 hw E2 R2 st2 i hlt, fun H3 => ∃ ι3 S4 accs rest, Ext ι1 S1.length H1 ι3 S4.length H3 ∧ Rel ⟨K, fun a => rs a ∨ a = D0⟩ ι3 S4 H3 ∧ H3 D0 = some (TxO wd D0 (setT accs)) ∧ (∀ m, m < S4.length → ι3 m ≠ D0) ∧
        still xs w S4 = true ∧ lcB t ft fe (still xs w) (wipeR ρ vs) (xs.drop (i + 1)) S4 = some (rest, S') ∧ ds = accs.map D.str ++ rest,
      fun H3 h3 => ⟨xs.length - (i + 1), by omega, rfl, by omega, h3⟩, fun x H3 hy => ?_⟩
    have hd : xs[i]? = some xs[i] := List.getElem?_eq_getElem hlt
    obtain ⟨E3, R3, a3⟩ := y.yld _ ι2 S3 H2 hw E2 R2 st2 i _ hd x H3 hy
    have hD3 : H3 D0 = some (TxO wd D0 (setT accs)) := E3.keep _ _ hD2 nd2
    have En2 : EnvAt ⟨K, fun a => rs a ∨ a = D0⟩ ι2 S3.length H3 (wipeR ρ vs) (wipe σ vs) := by
      refine EnvAt.wipe ⟨En1.1, fun j dj e => ?_⟩ vs
      obtain ⟨v, q, a⟩ := En1.2 j dj e
      exact ⟨v, q, ((a.wide hw).mono R1 E2).mono R2 E3⟩
    rw [List.drop_eq_getElem_cons hlt] at hf2
    simp only [lcB] at hf2
    split at hf2
    · cases hf2
    rename_i ρ3 e3
    refine ⟨_, ι2, wipeR ρ vs, S3, _, ρ3, R3, En2, a3, e3, fun σ4 En4 hl4 hj4 => ⟨wipe_again hl4 fun j hj => hj4 j fun z => hj (hix j z), ?_⟩⟩
    have grow : ∀ {ι5 : Nat → Addr} {S5 : Sto} {H5 : Hp}, Ext ι2 S3.length H3 ι5 S5.length H5 → H5 D0 = some (TxO wd D0 (setT accs)) ∧ (∀ m, m < S5.length → ι5 m ≠ D0) ∧ Ext ι1 S1.length H1 ι5 S5.length H5 := by
      intro ι5 S5 H5 E5
      refine ⟨E5.keep _ _ hD3 nd2, fun m hm z => ?_, (E2.trans E3).trans E5⟩
      by_cases hk : m < S3.length
      · rw [E5.eqi m hk] at z; exact nd2 m hk z
      · have q := E5.new m (Nat.le_of_not_lt hk) hm
        rw [z, hD3] at q; cases q
    cases e4 : ft ρ3 S3 with
    | none => rw [e4] at hf2; cases hf2
    | some r =>
      obtain ⟨c, S4⟩ := r
      refine tT.go R3 En4 e4 fun ι5 H5 E5 R5 En5 => ?_
      obtain ⟨hD5, nd5, E5'⟩ := grow E5
      rw [e4] at hf2
      cases c with
      | false =>
        rw [if_neg (by decide)]
        dsimp only at hf2
        split at hf2
        · rename_i st5
          exact ⟨ι5, S4, accs, rest, E5', R5, hD5, nd5, st5, hf2, eds⟩
        · cases hf2
      | true =>
        rw [if_pos rfl]
        dsimp only at hf2
        cases e6 : fe ρ3 S4 with
        | none => rw [e6] at hf2; cases hf2
        | some r =>
          obtain ⟨d6, S6⟩ := r
          rw [e6] at hf2
          dsimp only at hf2
          split at hf2
          case isFalse => cases hf2
          rename_i st6
          split at hf2
          · cases hf2
          rename_i rest' S7 e7
          cases hf2
          refine tE.go R5 En5 e6 fun ι6 H6 v E6 R6 En6 a6 => ?_
          obtain ⟨hD6, nd6, E6'⟩ := grow (E5.trans E6)
          have nt : ∀ vs, H6 D0 ≠ some (.tup vs) := fun vs z => by rw [hD6] at z; cases z
          have nf : ∀ a b, H6 D0 ≠ some (.frz a b) := fun a b z => by rw [hD6] at z; cases z
          obtain ⟨ky, rfl, hky⟩ := strs_mid (eds ▸ ess)
          cases a6
          have hl : (setT accs).length + 1 < scanBound := by
            have h1 := setT_len accs
            have h2 : scanBound = 4096 := rfl
            omega
          exact ⟨ky, setT accs, rfl, hD6, hl, ι6, S6, accs ++ [ky], rest', E6'.making hD, R6.offN (Or.inr rfl) nd6 nt nf, by rw [upd_same, setT_snoc], nd6, st6, e7, by rw [eds]; simp⟩
  · have e : i = xs.length := by omega
    subst e
    rw [List.drop_length] at hf2
    cases hf2
    rw [List.append_nil] at eds
    subst eds
    rw [strsD_strs] at ess
    cases ess
    refine .inl ⟨y.stop _ ι2 _ H2 hw E2 R2 st2, D0, setT ss, rfl, hD2, Nat.lt_of_le_of_lt (setT_len ss) hss, fun ys p srt pm hp => ?_⟩
    have nD : ¬ rs D0 := fun z => by
      obtain ⟨u, q⟩ := R1.res D0 z
      rw [hD] at q; cases q
    have R3 : Rel ⟨K, rs⟩ ι2 S' H2 := ⟨R2.inj, fun n u e => (R2.obj n u e).wide (rs' := rs) fun _ _ _ z => Or.inl z, fun a h => R2.res a (Or.inl h)⟩
    have hz : (ys.map V.str).length ≤ sizeLine := by
      have h1 := setT_len ss
      rw [List.length_map, pm.length_eq, sL]
      omega
    have := (kk.from (E1.trans E2)).lst (ds := (sortT (setT ss)).map D.str) (vs := ys.map V.str) R3 hp hz (by rw [sortT_of srt pm]; exact strs_at _ _ _ _ _)
    exact this
theorem de_sortS {p p2 : Pos} (hc : X.calm = true) (hg0 : Gl X "sorted") (hm : X.mg "sorted" = none) (hN : X.N.Nodup) (hi : DI X tg iter src) (ok : BlkOk X.N X.env.scope scope own)
    (hg : ∀ (s : Shared) (H : Hp) (C : Addr) (cl : List (Str × Addr)) (fp : List Addr), DG (X.blk s H scope (compEnvC scope cl C X.env) fp) tg t ix) (ht : ∀ (s : Shared) (H : Hp) (C : Addr) (cl : List (Str × Addr)) (fp : List Addr), DTs (X.blk s H scope (compEnvC scope cl C X.env) fp) ifs ft)
    (he : ∀ (s : Shared) (H : Hp) (C : Addr) (cl : List (Str × Addr)) (fp : List Addr), DE (X.blk s H scope (compEnvC scope cl C X.env) fp) elt fe) (hix : ∀ i ∈ ix, i ∈ own.map (·.2) := by decide) (hs : ∀ x, foldedSetIterable iter X.env x = pure x := by intro _; rfl)
    (h1 : starEach [.SetComp elt [⟨tg, iter, ifs, 0⟩] scope pos] X.env = (false, eval (.SetComp elt [⟨tg, iter, ifs, 0⟩] scope pos) X.env) :: starEach [] X.env := by rfl) (hpl : (backTo p2 (starEach [] X.env)).any (·.1) = false := by rfl) :
    DE X (.Call (.Name "sorted" p) [.SetComp elt [⟨tg, iter, ifs, 0⟩] scope pos] [] p2) (cSortS src t ft fe (own.map (·.2))) :=
  PE.imp (pe_callB (cr_sortTx hc) hg0 hm (by decide +kernel) (pa_cons (pe_scT hc hN hi ok hg ht he hs) pa_nil h1) (by decide) (by decide) h1 hpl) fun σ H Q q => cSortS_of hix σ H Q q
end
end FS
set_option Elab.async false
set_option linter.all false
set_option maxRecDepth 100000
set_option maxHeartbeats 4000000
namespace FS
open PySem PySem.Spec PyProof.Rows L2 RZ
/-! ### enumerate of a tuple -/
def IteT (K : PySem.W.Frag) (a : Addr) : It :=
  ⟨fun i H => ∃ (xs : List V) (x : V), SqT K H a xs ∧ xs[i]? = some x, fun i H v H' => ∃ T x, v = .ref T ∧ H T = none ∧ H' = upd H T (.tup [.int (i : Nat), x]) ∧ ∀ xs, SqT K H a xs → xs[i]? = some x, fun i H => ∃ xs : List V, SqT K H a xs ∧ xs.length ≤ i⟩
theorem enum_ne {h : Heap} {e it a : Addr} {i : Int} {old : Value} {xs : Array Value} (he : IsEnum h e it i old) (p : h.IsTuple a xs) : e ≠ a := fun z => by
  subst z
  obtain ⟨o, ho, hc, _⟩ := p
  rw [show h.get? e = _ from he] at ho
  cases ho
  simp at hc
theorem it_ne {h : Heap} {it a : Addr} {i : Nat} {xs : Array Value} (he : h.IsTupleIter it a i) (p : h.IsTuple a xs) : a ≠ it := fun z => by
  subst z
  obtain ⟨o, ho, hc, _⟩ := p
  obtain ⟨o2, ho2, hc2, _⟩ := he
  rw [ho] at ho2
  cases ho2
  rw [hc] at hc2
  simp at hc2
theorem enum_endT {prog : Program} {w : World} {A : Around} {E : Value → Shared → Prop} {s : Shared} {e it a : Addr} {i : Nat} {c : Int} {items : Array Value} {old : Value} {Q : Option Value → Shared → Prop}
    (hh : A.in1.handled = none) (he : IsEnum s.heap e it c old) (hit : s.heap.IsTupleIter it a i) (p : s.heap.IsTuple a items) (hx : items[i]? = none)
    (hQ : ∀ h', Heap.ExtBut it s.heap h' → Q none { s with heap := h' }) : wpAny (model prog w) A (pyNext (.ref e)) Q E s := by
  have hT : s.TypeIs (.ref e) "enumerate" := ⟨_, he, rfl⟩
  unfold pyNext
  refine wpAny_bind (wpAny_attempt (wpAny_callSpecial?_slot (name := Str.ofString "__next__") hT F.slot_enumerate_next
    (wpAny_call_entry F.slot_enumerate_next hT F.entry_enumerate_next ?_ (F.args_enumerate_next_1 _))))
  show wpAny _ _ (field (.ref e) 2 >>= _) _ _ _
  refine wpAny_bind (wpAny_field he rfl (x := .ref it) rfl ?_)
  refine wpAny_bind (wpAny_nextOf_tuple_end hh hit p hx fun h' x he' hx' => ?_)
  obtain ⟨o, ho, hc⟩ := hx'
  refine wpAny_bind (wpAny_isInstance (T := "StopIteration") (b := true) ⟨o, ho, hc⟩ isSubtype_stop ?_)
  exact wpAny_pure (hQ _ he')
theorem turn_enumT {P : Program} {w : World} {K : PySem.W.Frag} {elts : List Expr} {kk : Nat} {tpos : Pos} (a e it : Addr) :
    Turn P w K (.Tuple elts kk tpos) (IteT K a) [e, it] e (fun i h => (∃ old, IsEnum h e it ((i : Nat) : Int) old) ∧ h.IsTupleIter it a i ∧ e ≠ it) where
  mem := by simp
  obj := fun i h st b hb => by
    obtain ⟨⟨old, he⟩, ⟨o, ho, hc, hd⟩, _⟩ := st
    have e' : b = e ∨ b = it := by simpa using hb
    rcases e' with z | z
    · rw [z]; exact ⟨_, he, fun v q => nomatch q⟩
    · rw [z]; exact ⟨o, ho, fun v q => by rw [hd] at q; cases q⟩
  keep := fun i h h' st k => let ⟨⟨old, he⟩, hi, hne⟩ := st; ⟨⟨old, k e (by simp) _ he⟩, hi.at fun o q => k it (by simp) o q, hne⟩
  item := by
    intro X hP hw hK hc i pins s σ H E I hf st hg
    subst hP hw hK
    obtain ⟨⟨old, he⟩, hit, hne⟩ := st
    obtain ⟨xs, x, hq, hx⟩ := hg
    obtain ⟨its, rv, p, hz⟩ := I.tuple hq
    obtain ⟨u, hu, ru⟩ := rv.get hx
    have hel : e < s.heap.objs.size := Heap.lt_size he
    have hil : it < s.heap.objs.size := by obtain ⟨_, q, _⟩ := hit; exact Heap.lt_size q
    have hea : e ≠ a := enum_ne he p
    have hia : a ≠ it := it_ne hit p
    have hh : X.A.in1.handled = none := I.ok.hd hc
    have hl := rv.length
    have hlt : i < its.toArray.size := by
      have := (List.getElem?_eq_some_iff.1 hu).1
      simpa using this
    refine wpAny_pyNext_enum_itemD (Draws.tuple hh it a hia its.toArray) he ⟨hit, p⟩ hlt hne (by simp [hne, hea]) fun x' h' tk hPx ho hs' hT hsz hk => ?_
    obtain ⟨hit', _⟩ := hs'
    obtain rfl : u = x' := by
      have e1 : its[i]? = some x' := by simpa using hPx
      rw [hu] at e1
      exact Option.some.inj e1
    refine ⟨_, rfl, wpAny_letOwnedTupleGo_enum (s := { s with heap := h', toks := tk + 1 }) ho fun h'' he' sb => ?_⟩
    have hT2 : h''.get? s.heap.objs.size = some { cls := .type "tuple", data := .seq #[.int i tk, u] } := (sb.2 _ (Nat.ne_of_gt hel)).trans hT
    have new : ObjOk X.prog X.w (upd H s.heap.objs.size (.tup [.int (i : Nat), x])) h'' s.heap.objs.size (.tup [.int (i : Nat), x]) :=
      ⟨by show 2 ≤ sizeLine; decide, [.int i tk, u], .cons ⟨_, rfl⟩ (.cons ru .nil), ⟨_, hT2, rfl, _, rfl⟩⟩
    have I1 : Inv X pins σ (upd H s.heap.objs.size (.tup [.int (i : Nat), x])) { s with heap := h'', toks := tk + 1 } :=
      I.turnedNew (ch := [e, it]) (fun b ob hb q => (sb.2 b (fun z => hb (by simp [z]))).trans (hk b ob (fun z => hb (by simp [z])) (fun z => hb (by simp [z])) q)) hf (Nat.le_refl _) new
    refine ⟨.ref s.heap.objs.size, _, I1, rfl, ⟨_, x, rfl, I.hok.fresh (Nat.le_refl _), rfl, fun ys hy => by rw [I.tuple_inj hy hq]; exact hx⟩, ⟨⟨u, ?_⟩, hit'.at fun o q => (sb.2 it (Ne.symm hne)).trans q, hne⟩, fun b hb => ?_⟩
    · have e1 : ((i + 1 : Nat) : Int) = (i : Int) + 1 := by omega
      rw [e1]; exact he'
    · have hb' : b < s.heap.objs.size := by
        have e' : b = e ∨ b = it := by simpa using hb
        rcases e' with z | z
        · rw [z]; exact hel
        · rw [z]; exact hil
      rw [upd_ne (Nat.ne_of_lt hb')]
      exact (hf b hb).1
  done := by
    intro X hP hw hK hc i pins s σ H E I hf st hg
    subst hP hw hK
    obtain ⟨⟨old, he⟩, hit, hne⟩ := st
    obtain ⟨xs, hq, hx⟩ := hg
    obtain ⟨its, rv, p, hz⟩ := I.tuple hq
    obtain ⟨f0, f1, f2, f3, f4, f5⟩ := hf it (by simp)
    have hl := rv.length
    have hh : X.A.in1.handled = none := I.ok.hd hc
    have hia : a ≠ it := it_ne hit p
    refine enum_endT hh he hit p (by simp; omega) fun h' eb => ⟨rfl, I.turned (t' := s.toks) (fun b o hb q => eb b o hb q) f0 f1 f3 f4 f5⟩
  self := fun A i s Q E st h => let ⟨⟨_, he⟩, _⟩ := st; wpAny_pyIter_enum he h

theorem meets_enumerate_newT (l : Addr) (items : Array Value) :
    Meets (Builtin.«enumerate.__new__» ⟨[.type "enumerate", .ref l], []⟩) (fun _ R s => s.heap.IsTuple l items ∧
      R (.ok (.ret (.ref (s.heap.push { cls := .type "tuple_iterator", data := .fields #[.ref l, .int 0 0] }).objs.size)))
        { s with heap := (s.heap.push { cls := .type "tuple_iterator", data := .fields #[.ref l, .int 0 0] }).push { cls := .type "enumerate", data := .fields #[.none, .bool false, .ref s.heap.objs.size, rawInt 0, .none, .none] } }) :=
  .of_wp fun prog w A R s h => by
    obtain ⟨hp, g, d, tk, os⟩ := s; obtain ⟨hl, h⟩ := h
    have hsub := sub_enumerate
    have hL : Heap.IsTuple (Shared.heap ⟨hp, g, d, tk, os⟩) l items := hl
    have q1 : ∀ {A' : Around} {E : Value → Shared → Prop} {Q : Value → Shared → Prop}, Q (.ref hp.objs.size) ⟨hp.push { cls := .type "tuple_iterator", data := .fields #[.ref l, .int 0 0] }, g, d, tk, os⟩ → wpAny (model prog w) A' (pyIter (.ref l)) Q E ⟨hp, g, d, tk, os⟩ :=
      fun q => wpAny_pyIter_tuple hL q
    wp_walk using q1
    refine wpAny_stack_any fun st => wpAny_pure ?_
    split
    · rename_i c _ _ _ _ _
      cases (c == Value.type "enumerate")
      · wp_walk using q1
        exact ⟨_, rfl, h⟩
      · wp_walk using q1
        exact ⟨_, rfl, h⟩
    · wp_walk using q1
      exact ⟨_, rfl, h⟩
section
variable {prog : Program} {w : World} {A : Around} {E : Value → Shared → Prop} {s : Shared}
theorem call_enumerate_tup {l : Addr} {items : Array Value} {Q : Value → Shared → Prop} (hL : s.heap.IsTuple l items)
    (h : ∀ h', IsEnum h' (s.heap.objs.size + 1) s.heap.objs.size 0 .none → h'.IsTupleIter s.heap.objs.size l 0 → h'.objs.size = s.heap.objs.size + 2 →
      (∀ b o, s.heap.get? b = some o → h'.get? b = some o) → Q (.ref (s.heap.objs.size + 1)) { s with heap := h' }) :
    wpAny (model prog w) A (call (.type "enumerate") [.ref l]) Q E s := by
  refine callType_new F.called_enumerate (by decide) (F.typeCall_enumerate_1 _) (F.newCall_enumerate_1 _) (fun obj => F.args_object_init_2 obj _) F.entry_enumerate_new
    (meets_enumerate_newT l items) ⟨hL, ?_⟩
  have hz : (s.heap.push { cls := .type "tuple_iterator", data := .fields #[.ref l, .int 0 0] }).objs.size = s.heap.objs.size + 1 := Heap.size_push ..
  show _ ∧ _
  rw [hz]
  have he : IsEnum ((s.heap.push { cls := .type "tuple_iterator", data := .fields #[.ref l, .int 0 0] }).push
      { cls := .type "enumerate", data := .fields #[.none, .bool false, .ref s.heap.objs.size, rawInt 0, .none, .none] }) (s.heap.objs.size + 1) s.heap.objs.size 0 .none := by
    have := Heap.get?_push_size (s.heap.push { cls := .type "tuple_iterator", data := .fields #[.ref l, .int 0 0] })
      (o := { cls := .type "enumerate", data := .fields #[.none, .bool false, .ref s.heap.objs.size, rawInt 0, .none, .none] }) rfl
    rw [hz] at this; exact this
  refine ⟨⟨_, he, rfl⟩, h _ he ⟨_, Heap.get?_push_of_some _ (Heap.get?_push_size _ rfl), rfl, rfl⟩ (by rw [Heap.size_push, hz]) fun b o y => Heap.get?_push_of_some _ (Heap.get?_push_of_some _ y)⟩
end
def iEnumA (K : PySem.W.Frag) (ta : TA) : TI := fun σ H R => ta σ H fun vs H1 => ∃ a xs, vs = [.ref a] ∧ ((SqL K H1 a xs ∧ R (Ite K a) H1) ∨ (SqT K H1 a xs ∧ R (IteT K a) H1))
theorem pi_enumA {X : Cx} {e : Expr} {ta : TA} {p pos tpos : Pos} {elts : List Expr} {kk : Nat} (hg : Gl X "enumerate") (hm : X.mg "enumerate" = none) (ha : PA X [e] ta) (hs : starEach [e] X.env = [(false, eval e X.env)] := by rfl) :
    PI X (.Tuple elts kk tpos) (.Call (.Name "enumerate" p) [e] [] pos) (iEnumA X.K ta) := by
  refine ⟨fun pins s σ H R I h => ?_⟩
  refine Call_ (ld_blt I hg hm boot_enumerate (PyProof.Rows.callWith_type1 (thn (ha.run pos pins s σ H _ I h) fun us s1 ⟨vs, H1, I1, r1, q1⟩ => ?_) hs rfl))
  obtain ⟨a, xs, ex, q1⟩ := q1
  subst ex
  cases r1 with
  | cons r rr =>
    cases rr
    cases r
    have fp : ∀ b, b ∈ [s1.heap.objs.size + 1, s1.heap.objs.size] → FpOk X pins H1 b := fun b hb => by
      have e' : b = s1.heap.objs.size + 1 ∨ b = s1.heap.objs.size := by simpa using hb
      have hle : s1.heap.objs.size ≤ b := by
        rcases e' with z | z
        · rw [z]; exact Nat.le_add_right _ _
        · rw [z]; exact Nat.le_refl _
      exact I1.fpOk hle (I1.hok.fresh hle)
    rcases q1 with ⟨hq, q⟩ | ⟨hq, q⟩
    · obtain ⟨its, rv, p', hz⟩ := I1.list hq
      refine call_enumerate_list p'.isList fun h' he hit hsz hk => wpAny_pyIter_enum he ?_
      have I2 : Inv X pins σ H1 { s1 with heap := h' } := I1.kept (t' := s1.toks) hk
      exact ⟨s1.heap.objs.size + 1, [s1.heap.objs.size + 1, s1.heap.objs.size], _, _, H1, rfl, I2, turn_enum a (s1.heap.objs.size + 1) s1.heap.objs.size, ⟨⟨.none, he⟩, hit, Nat.succ_ne_self _⟩, fp, q⟩
    · obtain ⟨its, rv, p', hz⟩ := I1.tuple hq
      refine call_enumerate_tup (show s1.heap.IsTuple a its.toArray from p') fun h' he hit hsz hk => wpAny_pyIter_enum he ?_
      have I2 : Inv X pins σ H1 { s1 with heap := h' } := I1.kept (t' := s1.toks) hk
      exact ⟨s1.heap.objs.size + 1, [s1.heap.objs.size + 1, s1.heap.objs.size], _, _, H1, rfl, I2, turn_enumT a (s1.heap.objs.size + 1) s1.heap.objs.size, ⟨⟨.none, he⟩, hit, Nat.succ_ne_self _⟩, fp, q⟩
/-! ### enumerate as a source -/
section
variable {X : Cx} {a b c e : Expr} {es : List Expr} {f g h : G} {fs : Gs} {p pos : Pos}
def numD : Nat → List D → List D
  | _, [] => []
  | i, x :: xs => .tup [.int (i : Nat), x] :: numD (i + 1) xs
theorem numD_len : ∀ (xs : List D) (i : Nat), (numD i xs).length = xs.length
  | [], _ => rfl
  | x :: xs, i => by simp [numD, numD_len xs (i + 1)]
theorem numD_get : ∀ (xs : List D) (j i : Nat) (d : D), (numD j xs)[i]? = some d → ∃ x, xs[i]? = some x ∧ d = .tup [.int ((j + i : Nat) : Int), x]
  | [], j, i, d, h => by simp [numD] at h
  | x :: xs, j, 0, d, h => by
    simp only [numD, List.getElem?_cons_zero] at h
    exact ⟨x, rfl, (Option.some.inj h).symm⟩
  | x :: xs, j, i + 1, d, h => by
    simp only [numD, List.getElem?_cons_succ] at h
    obtain ⟨y, e1, e2⟩ := numD_get xs (j + 1) i d h
    refine ⟨y, by simpa using e1, ?_⟩
    rw [e2, show j + 1 + i = j + (i + 1) by omega]
def sEnum (r : Gs) : Src := fun ρ S => match r ρ S with
  | some ([.tup xs], S1) => some (numD 0 xs, none, S1)
  | some ([.lst xs], S1) => some (numD 0 xs, none, S1)
  | _ => none
variable {k : PySem.W.Frag} {rs : Addr → Prop} {ι : Nat → Addr} {S : Sto} {H : Hp} {q q2 : Addr} {xs ys : List D} {vs ws : List V}
theorem yl_enumT (R : Rel ⟨k, rs⟩ ι S H) (h1 : SqT k H q vs) (z : vs.length ≤ sizeLine) (l1 : AtL ⟨k, rs⟩ ι S.length H xs vs) : Yl k rs (IteT k q) ι S H (numD 0 xs) none := by
  have n1 := l1.length
  have hl : (numD 0 xs).length = vs.length := by rw [numD_len]; omega
  refine ⟨by omega, fun rs' ι2 S2 H2 _ E R2 _ i hi => ?_, fun rs' ι2 S2 H2 _ E R2 _ => ?_, fun rs' ι2 S2 H2 hw E R2 _ i d hd x H3 y => ?_⟩
  · exact ⟨vs, vs[i], sqT_mono (K := ⟨k, rs⟩) R E h1, List.getElem?_eq_getElem (by omega)⟩
  · exact ⟨vs, sqT_mono (K := ⟨k, rs⟩) R E h1, by omega⟩
  · obtain ⟨T, x1, rfl, hT, rfl, e1⟩ := y
    obtain ⟨d1, g1, rfl⟩ := numD_get _ _ _ _ hd
    obtain ⟨v1, q1, w1⟩ := ((l1.wide hw).mono R E).get g1
    have t1 := e1 vs (sqT_mono (K := ⟨k, rs⟩) R E h1)
    rw [q1] at t1
    cases t1
    rw [Nat.zero_add]
    have E3 : Ext ι2 S2.length H2 ι2 S2.length (upd H2 T (.tup [.int (i : Nat), x1])) := Ext.fresh hT
    refine ⟨E3, R2.fresh hT, .tup (vs := [.int (i : Nat), x1]) (.inl (.inl upd_same)) (by rw [sL]; exact (by decide : 2 ≤ 16777216)) (.cons (.int _) (.cons (w1.mono R2 E3) .nil))⟩
theorem yl_enumL (R : Rel ⟨k, rs⟩ ι S H) (h1 : RdL ⟨k, rs⟩ ι S.length H q vs) (z : vs.length ≤ sizeLine) (l1 : AtL ⟨k, rs⟩ ι S.length H xs vs) : Yl k rs (Ite k q) ι S H (numD 0 xs) none := by
  have n1 := l1.length
  have hl : (numD 0 xs).length = vs.length := by rw [numD_len]; omega
  refine ⟨by omega, fun rs' ι2 S2 H2 _ E R2 _ i hi => ?_, fun rs' ι2 S2 H2 _ E R2 _ => ?_, fun rs' ι2 S2 H2 hw E R2 _ i d hd x H3 y => ?_⟩
  · exact ⟨vs, vs[i], (rdL_mono E h1).sq, List.getElem?_eq_getElem (by omega)⟩
  · exact ⟨vs, (rdL_mono E h1).sq, by omega⟩
  · obtain ⟨T, x1, rfl, hT, rfl, e1⟩ := y
    obtain ⟨d1, g1, rfl⟩ := numD_get _ _ _ _ hd
    obtain ⟨v1, q1, w1⟩ := ((l1.wide hw).mono R E).get g1
    have t1 := e1 vs (rdL_mono E h1).sq
    rw [q1] at t1
    cases t1
    rw [Nat.zero_add]
    have E3 : Ext ι2 S2.length H2 ι2 S2.length (upd H2 T (.tup [.int (i : Nat), x1])) := Ext.fresh hT
    refine ⟨E3, R2.fresh hT, .tup (vs := [.int (i : Nat), x1]) (.inl (.inl upd_same)) (by rw [sL]; exact (by decide : 2 ≤ 16777216)) (.cons (.int _) (.cons (w1.mono R2 E3) .nil))⟩
theorem di_enum {elts : List Expr} {kk : Nat} {tpos : Pos} (hg : Gl X "enumerate") (hm : X.mg "enumerate" = none) (ha : DA X [a] fs)
    (hs : starEach [a] X.env = [(false, eval a X.env)] := by rfl) : DI X (.Tuple elts kk tpos) (.Call (.Name "enumerate" p) [a] [] pos) (sEnum fs) := by
  refine PI.imp (pi_enumA hg hm ha hs) ?_
  rintro σ H Q ⟨rs, ι, ρ, S, xs, w, S', R, En, hf, kk⟩
  unfold sEnum at hf
  split at hf
  · rename_i xs S1 e1
    cases hf
    refine tL.go R En e1 fun ι1 H1 v E1 R1 En1 a1 => ?_
    cases a1 with
    | cons h1 t1 =>
      cases t1
      cases h1 with
      | tup hq z l => exact ⟨_, _, rfl, .inr ⟨hq, kk _ _ _ E1 R1 rfl (yl_enumT R1 hq z l)⟩⟩
  · rename_i xs S1 e1
    cases hf
    refine tL.go R En e1 fun ι1 H1 v E1 R1 En1 a1 => ?_
    cases a1 with
    | cons h1 t1 =>
      cases t1
      cases h1 with
      | lst hq z l => exact ⟨_, _, rfl, .inl ⟨hq.sq, kk _ _ _ E1 R1 rfl (yl_enumL R1 hq z l)⟩⟩
  · cases hf
end
end FS
set_option Elab.async false
set_option linter.all false
set_option maxRecDepth 100000
set_option maxHeartbeats 4000000
namespace FS
open PySem PySem.Spec PyProof.Rows L2 RZ
section
variable {X : Cx} {a b c e : Expr} {es : List Expr} {f g h : G} {fs : Gs} {p pos : Pos}
/-- a call that leaves arguments to their defaults -/
theorem de_callD {k : Nat} {fa : Addr} {fd : FuncData} {ps : List Str} {F : Fn} {x : Str} {p : Pos} {ds : List Value} {dvs : List V} {dds : List D} (g : FG X.prog X.w X.K X.mg X.base k fa fd ps F) (hr : Room k X.A) (hgd : X.A.guards = some []) (hg : Gl X x) (hm : X.mg x = some (.ref fa)) (hk : PySem.W.keepIn X.K (.ref fa) = true) (hb : Binds X.K fd ps ds) (hd : Vals dvs ds)
    (hw : ∀ K ι N H, AtL K ι N H dds dvs) (ha : DA X (e :: es) fs) (hdb : (x == ("__debug__" : Str)) = false := by decide) (he : starEach (e :: es) X.env = (false, eval e X.env) :: starEach es X.env := by rfl)
    (hpl : (backTo pos (starEach es X.env)).any (·.1) = false := by rfl) :
    DE X (.Call (.Name x p) (e :: es) [] pos) (cCall F dds fs) := PE.imp (pe_callG g hr hgd hg hm hk hb hd ha hdb he hpl) (cCall_of fun _ _ _ _ => hw _ _ _ _)
end
section
/-- a def with defaults is worth its body, as a def without -/
theorem fg_ofD {P : Program} {w : World} {K : PySem.W.Frag} {mg : Str → Option Value} {base : Heap} {k : Nat} {f : Addr} {fd : FuncData} {x qual : Str} {st : Stmt} {Ns ps : List Str} {b : B} {dvs : List V} {kws : List (Str × V)} (F : FunD K x qual (defArgs st) (defBody st) (defScope st) dvs kws f fd) (S : FnScope Ns ps (defScope st))
    (body : ∀ (cdv : Value) (A : Around) (outer : List Env) (s : Shared) (H : Hp), Room k (A.deeper (envOfC qual (defScope st) s.heap.objs.size f cdv)) → A.guards = some [] →
      DSs (cxOf CX0 P w K mg base Ns qual (defScope st) f cdv A outer s H E0).nox (defBody st) b) : FG P w K mg base (k + 1) f fd ps (runFn ps.length Ns.length b) := by
  obtain ⟨oc, od, dV, kV, doc, pm, an, cdv, ct, osl, rfl, lk, hcd, _, _⟩ := F.ex
  constructor
  · intro ds S r h
    unfold runFn at h
    split at h
    · assumption
    · cases h
  · intro A outer s H args us vs Q hr hgd e0 hb r hsp
    have KX : K.In s.heap := e0.mod.kin.keeps fun b o e => (e0.bs b o e).1
    have lim : s.heap.NoLimit := e0.mod.nolimit.keeps fun b o e => (e0.bs b o e).1
    obtain ⟨rs, ι, S0, ds, d, S', R, a, hF, pq⟩ := hsp
    have hl : ds.length = ps.length := by
      unfold runFn at hF
      split at hF
      · assumption
      · cases hF
    have hvl : vs.length = ps.length := by rw [← a.length]; exact hl
    have kinds : ∀ y ∈ ps.zip us, (defScope st).names.lookup y.1 = some .local ∨ ((defScope st).names.lookup y.1 = some .cell ∧ ((cellsFrom (s.heap.objs.size + 1) (defScope st).names []).lookup y.1).isSome = true) := by
      intro y hy
      cases S.par y.1 (List.of_mem_zip (a := y.1) (b := y.2) hy).1 with
      | inl q => exact .inl q
      | inr q => exact .inr ⟨q, PySem.W.cellsFrom_some _ _ _ (.inl q)⟩
    apply codeAny_call_function hr.depth (KX _ _ lk) rfl S.co S.gen rfl (PySem.W.codeRec_of KX hcd) (hb _ _ _ _ _)
    apply wpAny_newFunctionEnv_cells S.kind kinds
    intro env he s1 xx
    subst he
    refine ⟨lim.keeps xx.toInCall.keep, codeAny_func ?_⟩
    have I : Inv (cxOf CX0 P w K mg base Ns qual (defScope st) f cdv A outer s H E0) [] (L2.start Ns vs) H s1 := inv_start S hr.hd e0 hvl r xx
    have hbd := (body cdv A outer s H (hr.deeper _) hgd).nox
    have rd : tS K b { nx := fun _ H' => Q .non H', rt := Q } (L2.start Ns vs) H := by
      unfold runFn at hF
      rw [if_pos hl] at hF
      have En := env_start (Ns := Ns) a hl
      cases hb1 : b (ds.map some ++ List.replicate (Ns.length - ps.length) none) S0 with
      | none => rw [hb1] at hF; cases hF
      | some r1 =>
        obtain ⟨fl, ρ', S1⟩ := r1
        rw [hb1] at hF
        refine ⟨rs, ι, _, S0, fl, ρ', S1, R, En, hb1, ?_⟩
        cases fl with
        | rt d1 => cases hF; exact pq
        | nx => cases hF; exact fun ι' σ' H' E R' _ => pq ι' H' .non E R' .non
        | bk => cases hF
        | ct => cases hF
    refine wpAny_mono (hbd.run [] s1 _ H _ I rd) ?_ fun _ _ hs => hs
    intro fl s' hs
    match fl, hs with
    | .ret u, ⟨v, σ', H', J, rv, q⟩ => exact ⟨v, H', J.os, J.bare, J.base, J.hok, rv, q⟩
    | .next, ⟨σ', H', J, q⟩ => exact ⟨.non, H', J.os, J.bare, J.base, J.hok, rfl, q⟩
    | .brk, ⟨_, _, _, q⟩ => exact q.elim
    | .cont, ⟨_, _, _, q⟩ => exact q.elim

end
section
variable {X : Cx} {a b c e : Expr} {es : List Expr} {f g h : G} {fs : Gs} {p pos : Pos}
theorem de_callE {k : Nat} {fa : Addr} {fd : FuncData} {ps : List Str} {F : Fn} {x : Str} {p : Pos} {dvs : List V} {dds : List D} (g : FG X.prog X.w X.K X.mg X.base k fa fd ps F) (hr : Room k X.A) (hgd : X.A.guards = some []) (hg : Gl X x) (hm : X.mg x = some (.ref fa)) (hk : PySem.W.keepIn X.K (.ref fa) = true) (hb : ∃ ds, Vals dvs ds ∧ Binds X.K fd ps ds)
    (hw : ∀ K ι N H, AtL K ι N H dds dvs) (ha : DA X (e :: es) fs) (hdb : (x == ("__debug__" : Str)) = false := by decide) (he : starEach (e :: es) X.env = (false, eval e X.env) :: starEach es X.env := by rfl)
    (hpl : (backTo pos (starEach es X.env)).any (·.1) = false := by rfl) :
    DE X (.Call (.Name x p) (e :: es) [] pos) (cCall F dds fs) := by
  obtain ⟨ds, hd, hb⟩ := hb
  exact de_callD g hr hgd hg hm hk hb hd hw ha hdb he hpl
theorem binds_all {K : PySem.W.Frag} {fd : FuncData} {ps : List Str} (h : ∃ ds, Vals [] ds ∧ Binds K fd ps ds) : Binds K fd ps [] := by
  obtain ⟨ds, hd, hb⟩ := h
  cases hd
  exact hb
theorem funD_mk {K : PySem.W.Frag} {x qual : Str} {st : Stmt} {f q : Addr} {oc : Value} {od an : Option Addr} {osl : Array (Option Value)} {kV doc pm cdv ct : Value} {o : Obj} {its : List Value} {n : Nat} {dvs : List V} (l : K.lookup f = some ⟨oc, od, .func (PySem.W.fnOf x qual (defArgs st) (defBody st) (defScope st) (.ref q) kV doc pm an cdv ct), osl⟩)
    (lq : K.lookup q = some o) (hd : o.data = .seq its.toArray n) (hv : Vals dvs its) (hn : dvs ≠ []) (c : PySem.W.codeIn K cdv qual = true) (k : PySem.W.keepIn K (.ref f) = true) : FunD K x qual (defArgs st) (defBody st) (defScope st) dvs [] f (PySem.W.fnOf x qual (defArgs st) (defBody st) (defScope st) (.ref q) kV doc pm an cdv ct) :=
  ⟨⟨oc, od, .ref q, kV, doc, pm, an, cdv, ct, osl, rfl, l, c, .inr ⟨hn, q, o, its, n, rfl, lq, hd, hv⟩, .inl rfl⟩, k⟩
end
end FS
set_option Elab.async false
set_option linter.all false
set_option maxRecDepth 100000
set_option maxHeartbeats 4000000
namespace FS
open PySem PySem.Spec PyProof.Rows L2 RZ
section
variable {X : Cx} {a b c e : Expr} {es : List Expr} {f g h : G} {fs : Gs} {p pos : Pos}
/-! ### data within a sequence of data -/
def anyD (d : PyData) (xs : List PyData) : Bool := xs.any fun y => PyData.eqv y d
def rInD (K : PySem.W.Frag) (neg : Bool) : R2 := fun x y H Q => ∃ d xs, Dp K H x d ∧ ((Dp K H y (.tuple xs) ∧ SeqAt.shaped (.tuple xs) = true) ∨ (Dp K H y (.list xs) ∧ SeqAt.shaped (.list xs) = true)) ∧ SeqAt.shaped d = true ∧ Q (.bl (if neg then !anyD d xs else anyD d xs)) H
theorem op_inD (hu : X.A.units + 65 < cLine) : OpR X (compareOp .In) (rInD X.K false) := by
  intro pins s σ H x y v u Q I rx ry h
  obtain ⟨d, xs, hd, he, sd, q⟩ := h
  obtain ⟨as, r1⟩ := Dp.reads I d x v hd rx
  rcases he with ⟨he, se⟩ | ⟨he, se⟩
  · obtain ⟨bs, r2⟩ := Dp.reads I _ y u he ry
    exact PySem.SeqAt.in_tuple_reads r2 r1 (SeqAt.canLay_of_shaped se) (SeqAt.canLay_of_shaped sd) (room_in_shaped sd hu) ⟨.bl _, H, I, rfl, q⟩
  · obtain ⟨bs, r2⟩ := Dp.reads I _ y u he ry
    exact PySem.SeqAt.in_list_reads r2 r1 (SeqAt.canLay_of_shaped se) (SeqAt.canLay_of_shaped sd) (room_in_shaped sd hu) ⟨.bl _, H, I, rfl, q⟩
theorem op_notInD (hu : X.A.units + 65 < cLine) : OpR X (compareOp .NotIn) (rInD X.K true) := by
  intro pins s σ H x y v u Q I rx ry h
  obtain ⟨d, xs, hd, he, sd, q⟩ := h
  obtain ⟨as, r1⟩ := Dp.reads I d x v hd rx
  rcases he with ⟨he, se⟩ | ⟨he, se⟩
  · obtain ⟨bs, r2⟩ := Dp.reads I _ y u he ry
    exact PySem.SeqAt.notIn_tuple_reads r2 r1 (SeqAt.canLay_of_shaped se) (SeqAt.canLay_of_shaped sd) (room_in_shaped sd hu) ⟨.bl _, H, I, rfl, q⟩
  · obtain ⟨bs, r2⟩ := Dp.reads I _ y u he ry
    exact PySem.SeqAt.notIn_list_reads r2 r1 (SeqAt.canLay_of_shaped se) (SeqAt.canLay_of_shaped sd) (room_in_shaped sd hu) ⟨.bl _, H, I, rfl, q⟩
def inDO (neg : Bool) : Op2 := fun S x y => match pyD (seen S x), pyD (seen S y) with
  | some d, some (.tuple xs) => if SeqAt.shaped d = true ∧ SeqAt.shaped (.tuple xs) = true then some (.bl (if neg then !anyD d xs else anyD d xs)) else none
  | some d, some (.list xs) => if SeqAt.shaped d = true ∧ SeqAt.shaped (.list xs) = true then some (.bl (if neg then !anyD d xs else anyD d xs)) else none
  | _, _ => none
theorem inDO_ok (neg : Bool) : Serves2 X.K (rInD X.K neg) (inDO neg) := by
  intro rs ι S H x y v u d Q R a1 a2 e k
  unfold inDO at e
  split at e
  · rename_i p xs e1 e2
    split at e
    · rename_i hs
      cases e
      exact ⟨p, xs, seen_at R a1 e1, .inl ⟨seen_at R a2 e2, hs.2⟩, hs.1, k.same R (.bl _)⟩
    · cases e
  · rename_i p xs e1 e2
    split at e
    · rename_i hs
      cases e
      exact ⟨p, xs, seen_at R a1 e1, .inr ⟨seen_at R a2 e2, hs.2⟩, hs.1, k.same R (.bl _)⟩
    · cases e
  · cases e
/-- first the flat road, then by data -/
def inA (neg : Bool) : Op2 := fun S x y => (inO neg S x y).or (inDO neg S x y)
theorem un65 {k : Nat} {A : Around} (hr : Room k A) : A.units + 65 < cLine := by have := hr.un; omega
theorem de_inA {k : Nat} (hr : Room k X.A) (ha : DE X a f) (hb : DE X b g) (hm : behindInMarks .In b = false := by rfl) : DE X (.Compare a [.In] [b] pos) (cBin (inA false) f g) := de_cmp (op_inB.or (op_inD (un65 hr))) ((inO_ok false).or (inDO_ok false)) ha hb hm
theorem de_notInA {k : Nat} (hr : Room k X.A) (ha : DE X a f) (hb : DE X b g) (hm : behindInMarks .NotIn b = false := by rfl) : DE X (.Compare a [.NotIn] [b] pos) (cBin (inA true) f g) := de_cmp (op_ninB.or (op_notInD (un65 hr))) ((inO_ok true).or (inDO_ok true)) ha hb hm
theorem dt_inA {k : Nat} (hr : Room k X.A) (ha : DE X a f) (hb : DE X b g) (hm : behindInMarks .In b = false := by rfl) : DT X (.Compare a [.In] [b] pos) (cTest (cBin (inA false) f g)) := dt_cmp (op_inB.or (op_inD (un65 hr))) ((inO_ok false).or (inDO_ok false)) ha hb hm
theorem dt_notInA {k : Nat} (hr : Room k X.A) (ha : DE X a f) (hb : DE X b g) (hm : behindInMarks .NotIn b = false := by rfl) : DT X (.Compare a [.NotIn] [b] pos) (cTest (cBin (inA true) f g)) := dt_cmp (op_ninB.or (op_notInD (un65 hr))) ((inO_ok true).or (inDO_ok true)) ha hb hm
end
end FS
set_option Elab.async false
set_option linter.all false
set_option maxRecDepth 100000
set_option maxHeartbeats 4000000
namespace FS
open PySem PySem.Spec PyProof.Rows L2 RZ
/-! ### range with a step -/
def intsStep (lo c : Int) (n : Nat) : List D := (List.range n).map fun i : Nat => D.int (lo + (i : Nat) * c)
theorem intsStep_length (lo c : Int) (n : Nat) : (intsStep lo c n).length = n := by simp [intsStep]
theorem intsStep_get {lo c : Int} {n i : Nat} {d : D} (h : (intsStep lo c n)[i]? = some d) : d = .int (lo + (i : Nat) * c) := by
  unfold intsStep at h
  rw [List.getElem?_map] at h
  obtain ⟨j, h1, h2⟩ := Option.map_eq_some_iff.mp h
  obtain ⟨h3, h4⟩ := List.getElem?_eq_some_iff.1 h1
  rw [← h2, ← h4]
  simp
section
variable {k : PySem.W.Frag} {rs : Addr → Prop} {ι : Nat → Addr} {S : Sto} {H : Hp}
theorem yl_rngC {lo c : Int} {n : Nat} (z : n ≤ sizeLine) : Yl k rs (Itc lo c n) ι S H (intsStep lo c n) none := by
  have hl := intsStep_length lo c n
  refine ⟨by rw [hl]; exact z, fun rs' ι2 S2 H2 _ E R2 _ i hi => by rw [hl] at hi; exact hi, fun rs' ι2 S2 H2 _ E R2 _ => by rw [hl]; exact Nat.le_refl _, fun rs' ι2 S2 H2 hw E R2 _ i d hd x H3 y => ?_⟩
  obtain ⟨e1, e2⟩ := y
  subst e1 e2
  rw [intsStep_get hd]
  exact ⟨Ext.refl, R2, .int _⟩
end
def sRng3 (r : Gs) : Src := fun ρ S => match r ρ S with
  | some ([.int i, .int j, .int c], S1) => if c ≠ 0 ∧ c.natAbs < 1073741824 ∧ Builtin.Range.small i j c = true ∧ Builtin.Range.rangeSize i j c = ((Builtin.Range.rangeSize i j c).toNat : Int) ∧ (Builtin.Range.rangeSize i j c).toNat ≤ 1000000
    then some (intsStep i c (Builtin.Range.rangeSize i j c).toNat, none, S1) else none
  | _ => none
section
variable {X : Cx} {tg a b c : Expr} {fs : Gs} {p pos : Pos}
theorem di_rng3 (hg : Gl X "range") (hm : X.mg "range" = none) (ha : DA X [a, b, c] fs)
    (hs : starEach [a, b, c] X.env = (false, eval a X.env) :: starEach [b, c] X.env := by rfl) (hpl : (backTo pos (starEach [b, c] X.env)).any (·.1) = false := by rfl) :
    DI X tg (.Call (.Name "range" p) [a, b, c] [] pos) (sRng3 fs) := by
  refine PI.imp (pi_range3 hg hm ha hs hpl) ?_
  rintro σ H Q ⟨rs, ι, ρ, S, xs, w, S', R, En, hf, kk⟩
  unfold sRng3 at hf
  split at hf
  · rename_i i j c S1 e1
    split at hf
    · rename_i hj
      cases hf
      refine tL.go R En e1 fun ι1 H1 vs E1 R1 En1 a1 => ?_
      cases a1 with
      | cons h t =>
        cases h
        cases t with
        | cons h t =>
          cases h
          cases t with
          | cons h t =>
            cases h; cases t
            refine ⟨i, j, c, _, rfl, ⟨hj.1, hj.2.1, hj.2.2.1, hj.2.2.2.1⟩, kk _ _ _ E1 R1 rfl (yl_rngC (by rw [sizeLine_eq]; have := hj.2.2.2.2; omega))⟩
    · cases hf
  · cases hf
end
end FS
set_option Elab.async false
set_option linter.all false
set_option maxRecDepth 100000
set_option maxHeartbeats 4000000
namespace FS
open PySem PySem.Spec PyProof.Rows L2 PpSet
/-! ### set(t) of a tuple of texts -/
theorem txt_at : ∀ {l : List Value} {ns : List Str}, StrsAre l ns → ∀ (i : Nat) (v : Value), l[i]? = some v → ∃ k t, ns[i]? = some k ∧ v = .str k t
  | _, _, .nil, i, v, h => by simp at h
  | _, _, .cons k u h, 0, v, e => by
    simp at e
    exact ⟨k, u, rfl, e.symm⟩
  | _, _, .cons k u h, i + 1, v, e => by
    simp at e
    obtain ⟨k', t, e1, e2⟩ := txt_at h i v e
    exact ⟨k', t, by simpa using e1, e2⟩
theorem text_new_at {w : World} {h : Heap} {a : Addr} (ho : h.get? a = some { cls := .type "set", dict := none, data := .set #[] 0 (.fresh 0 0 (!w.params.followText "set-order")) }) : TextS w h a (setT []) := by
  obtain ⟨o, es, ep, t, ho', hx, hd, g, nd, hm, hb, hf, hn, hr, hl⟩ := setR_new_at (ns := []) ho
  have e : es.toList = [] := by
    have : es.size = 0 := hn
    exact List.eq_nil_of_length_eq_zero (by rw [Array.length_toList]; exact this)
  exact ⟨o, es, ep, t, ho', hx, hd, (fun x hx => by rw [e] at hx; cases hx), (by rw [e]; exact List.Perm.nil), List.nodup_nil, hb, hf, hr, hl⟩
section
variable {P : Program} {w : World} {A : Around} {E : Value → Shared → Prop} {s : Shared}
theorem set_update_txts {I : Addr} {fp wr : List Addr} {G : Array GenState → Array GenState → Prop} {n : Nat} {Pv : Nat → Value → Prop} {St : Nat → Shared → Prop} {R : Result → Shared → Prop}
    (W : WalksS P w A.in1 I fp wr G n Pv St) (S : Addr) (hSf : S ∉ fp) (ns : List Str) (hn : n = ns.length) (hb : ns.length + 1 < scanBound) (hval : ∀ i v, Pv i v → ∃ k t, ns[i]? = some k ∧ v = .str k t) :
    ∀ (k i : Nat) (s : Shared), n - i = k → i ≤ n → St i s → TextS w s.heap S (setT (ns.take i)) →
      (∀ s', Moved (S :: wr) G s s' → TextS w s'.heap S (setT ns) → R (.ok (.ret .none)) s') →
      codeAny (model P w) A (.builtin "set.update.loop" ⟨[.ref S, .ref I], []⟩) R s := by
  have hSw : S ∉ wr := fun h => hSf (W.sub _ h)
  have hsub : ∀ b ∈ wr, b ∈ S :: wr := fun b hb => List.mem_cons_of_mem _ hb
  intro k
  induction k with
  | zero =>
    intro i s hk' hi hst hS hR
    have hin : i = n := by omega
    subst hin
    refine codeAny_builtin F.entry_set_update_loop ?_
    rw [Around.under_plainId F.plain_set_update_loop _]
    show wpAny _ A.in1 (pyNext (.ref I) >>= _) _ _ s
    refine wpAny_bind (W.done s _ _ hst fun s' hm => ?_)
    show wpAny _ A.in1 (ret Value.none) _ _ s'
    have e : ns.take i = ns := List.take_of_length_le (by omega)
    rw [e] at hS
    exact wpAny_pure (hR s' (hm.mono hsub) (hS.stay fun o e => hm.heap S o hSw e))
  | succ k ih =>
    intro i s hk' hi hst hS hR
    have hlt : i < n := by omega
    refine codeAny_builtin F.entry_set_update_loop ?_
    rw [Around.under_plainId F.plain_set_update_loop _]
    show wpAny _ A.in1 (pyNext (.ref I) >>= _) _ _ s
    refine wpAny_bind (W.item i s _ _ hlt hst fun v s' hP hst' hm => ?_)
    obtain ⟨z, t, hz, rfl⟩ := hval i v hP
    have hS' : TextS w s'.heap S (setT (ns.take i)) := hS.stay fun o e => hm.heap S o hSw e
    show wpAny _ A.in1 (holding [Value.str z t] (setAdd S (.str z t)) >>= _) _ _ s'
    refine wpAny_bind (wpAny_holding ?_)
    unfold setAdd
    refine wpAny_holding ?_
    refine wpAny_bind ((PySem.strKind P w).pyHash (PySem.strKind_is P w z t) ?_)
    refine text_add_hashed (s := { s' with toks := s'.toks + 1 }) hS' (by have := setT_len (ns.take i); rw [List.length_take] at this; omega) fun h' hsb hS2 => ?_
    have hS3 : TextS w h' S (setT (ns.take (i + 1))) := by
      rw [List.take_add_one, hz]
      show TextS w h' S (setT (ns.take i ++ [z]))
      rw [setT_snoc]
      exact hS2
    refine wpAny_pure ⟨plainId_quiet F.plain_set_update_loop _, ih (i + 1) _ (by omega) hlt (W.frame _ s' _ _ hst' (Nat.le_succ _) fun b hb o e => ?_) hS3 fun s'' hm'' hS'' => ?_⟩
    · rw [hsb.2 b (fun h : b = S => hSf (by rw [← h]; exact hb))]; exact e
    · refine hR s'' (Moved.trans W.gtrans ((hm.mono hsub).then_heap (Nat.le_succ _) fun b o hb e => ?_) hm'') hS''
      rw [hsb.2 b (fun h : b = S => hb (by rw [h]; exact List.mem_cons_self))]; exact e

set_option maxRecDepth 100000 in
set_option maxHeartbeats 3200000 in
theorem call_set_tupT {l : Addr} {items : Array Value} (ns : List Str) {Q : Value → Shared → Prop} (hh : A.handled = none) (hl : s.heap.IsTuple l items) (hit : StrsAre items.toList ns) (hb : ns.length + 1 < scanBound)
    (h : ∀ (h' : Heap) (tk : Nat), TextS w h' s.heap.objs.size (setT ns) → (∀ b o, s.heap.get? b = some o → h'.get? b = some o) → Q (.ref s.heap.objs.size) { s with heap := h', toks := tk }) :
    wpAny (model P w) A (call (.type "set") [.ref l]) Q E s := by
  have hisz : items.size = ns.length := by
    have q := StrsAre.length hit
    rw [Array.length_toList] at q
    exact q
  obtain ⟨c, tl, hmro⟩ := F.called_set.mro
  have hmade := F.called_set.made
  have hsub := F.called_set.sub
  refine wpAny_call (codeAny_of_tree ?_)
  show wpAny _ _ (callAny (.type "set") _) _ _ _
  refine wpAny_pure ⟨Code.quiet_builtin _ (by decide +kernel), codeAny_builtin F.entry_type_call ?_⟩
  rw [Around.under_plain (weight_type_call_type "set" [.ref l] []) rfl]
  have h1 := F.called_set.notType
  have h2 := F.called_set.canCreate
  have hct := F.typeCall_set_1 (.ref l)
  repeat (any_goals (first | assumption | wp_step))

  refine codeAny_mono (code_set_led1 (.ref l) (E := E) (Q₁ := fun obj s₁ => obj = .ref s.heap.objs.size ∧ s₁ = { s with heap := s.heap.push { cls := .type "set", dict := none, data := .set #[] 0 (.fresh 0 0 (!w.params.followText "set-order")) } }) ⟨rfl, rfl⟩) fun r s₁ hr => ?_
  cases r with
  | error e => exact hr
  | ok fl =>
    cases fl with
    | ret obj =>
      obtain ⟨rfl, rfl⟩ := hr
      have hS : (s.heap.push { cls := .type "set", dict := none, data := .set #[] 0 (.fresh 0 0 (!w.params.followText "set-order")) }).get? s.heap.objs.size = some { cls := .type "set", dict := none, data := .set #[] 0 (.fresh 0 0 (!w.params.followText "set-order")) } := Heap.get?_push_size _ rfl
      have hT : Shared.TypeIs { s with heap := s.heap.push { cls := .type "set", dict := none, data := .set #[] 0 (.fresh 0 0 (!w.params.followText "set-order")) } } (.ref s.heap.objs.size) "set" := ⟨_, hS, rfl⟩
      have hli := F.called_set.init.lookup
      have hbi := F.called_set.init.bind (.ref s.heap.objs.size)
      repeat (any_goals (first | assumption | wp_step))

      refine codeAny_mono (codeAny_call_builtin (R := wants (fun r s₂ => r = .none ∧ ∃ h' tk, s₂ = { s with heap := h', toks := tk } ∧ TextS w h' s.heap.objs.size (setT ns) ∧
          (∀ b o, s.heap.get? b = some o → h'.get? b = some o)) E) F.called_set.init.plain F.entry_set_init (check_set_init_1 hT ?_)) fun r₂ s₂ hr₂ => ?_
      · obtain ⟨ol, hol, hcl, nl, hdl⟩ := hl
        obtain ⟨ocls, odict, odata, oslots⟩ := ol
        simp only at hcl hdl
        subst hcl; subst hdl
        have hol' : (s.heap.push { cls := .type "set", dict := none, data := .set #[] 0 (.fresh 0 0 (!w.params.followText "set-order")) }).get? l = some { cls := .type "tuple", dict := odict, data := .seq items nl, slots := oslots } := Heap.get?_push_of_some _ hol
        have hsls := F.sub_tuple_set
        have hslf := F.sub_tuple_frozenset
        have hne : (Value.type "tuple" == Value.type "dict") = false := by decide
        have hl1 : (s.heap.push { cls := .type "set", dict := none, data := .set #[] 0 (.fresh 0 0 (!w.params.followText "set-order")) }).IsTuple l items := ⟨_, hol', rfl, nl, rfl⟩
        unfold Builtin.«set.__init__» noKeywords Builtin.Frozenset.updateFrom
        generalize hPI : pyIter = PI
        wp_walk
        subst hPI

        refine wpAny_pyIter_tuple hl1 ?_
        refine wpAny_bind (wpAny_runValue ?_)
        have hlS : l < s.heap.objs.size := Heap.lt_size hol
        have hh3 : A.in1.in1.in1.handled = none := by simp [hh]
        have hz1 : (s.heap.push { cls := .type "set", dict := none, data := .set #[] 0 (.fresh 0 0 (!w.params.followText "set-order")) }).objs.size = s.heap.objs.size + 1 := Heap.size_push ..
        have hneI : l ≠ (s.heap.push { cls := .type "set", dict := none, data := .set #[] 0 (.fresh 0 0 (!w.params.followText "set-order")) }).objs.size := by
          rw [Heap.size_push]; exact Nat.ne_of_lt (Nat.lt_succ_of_lt hlS)
        have hSf : s.heap.objs.size ∉ [(s.heap.push { cls := .type "set", dict := none, data := .set #[] 0 (.fresh 0 0 (!w.params.followText "set-order")) }).objs.size, l] := by
          rw [Heap.size_push]; simp only [List.mem_cons, List.mem_singleton, List.not_mem_nil, or_false, not_or]
          exact ⟨Nat.ne_of_lt (Nat.lt_succ_self _), Nat.ne_of_gt hlS⟩
        have hval : ∀ (i : Nat) (v : Value), items[i]? = some v → ∃ k t, ns[i]? = some k ∧ v = .str k t := fun i v hv => by
          exact txt_at hit i v (by rw [Array.getElem?_toList]; exact hv)
        refine set_update_txts ((Walks.tuple hh3 _ l hneI items).toS) s.heap.objs.size
          hSf ns hisz hb hval (items.size - 0) 0 _ (by omega) (Nat.zero_le _)
          ⟨⟨_, Heap.get?_push_size _ rfl, rfl, rfl⟩, (hl1.push _)⟩ ?hS0 ?hR
        case hS0 =>
          have hget : ((s.heap.push { cls := .type "set", dict := none, data := .set #[] 0 (.fresh 0 0 (!w.params.followText "set-order")) }).push { cls := .type "tuple_iterator", data := .fields #[.ref l, .int 0 0] }).get? s.heap.objs.size
              = some { cls := .type "set", dict := none, data := .set #[] 0 (.fresh 0 0 (!w.params.followText "set-order")) } := Heap.get?_push_of_some _ hS
          exact text_new_at hget
        case hR =>
          intro s' hm hS'
          obtain ⟨h', g2, d', tk', os'⟩ := s'
          have eg : g2 = s.gens := hm.gens
          have ed : d' = s.drawn := hm.drawn
          have eo : os' = s.os := hm.os
          subst eg; subst ed; subst eo
          show wpAny _ _ _ _ _ _
          refine wpAny_pure ?_
          show wpAny _ _ (ret Value.none) _ _ _
          refine wpAny_pure ⟨rfl, h', tk', rfl, hS', fun b o e => ?_⟩
          have hb0 : b < s.heap.objs.size := Heap.lt_size e
          have hb1 : b ≠ s.heap.objs.size := Nat.ne_of_lt hb0
          have hb2 : b ≠ (s.heap.push { cls := .type "set", dict := none, data := .set #[] 0 (.fresh 0 0 (!w.params.followText "set-order")) }).objs.size := by
            rw [Heap.size_push]; exact Nat.ne_of_lt (Nat.lt_succ_of_lt hb0)
          exact hm.heap b o (by simp only [List.mem_cons, List.mem_singleton, List.not_mem_nil, or_false, not_or]; exact ⟨hb1, hb2⟩) (Heap.get?_push_of_some _ (Heap.get?_push_of_some _ e))

      · cases r₂ with
        | error e => exact hr₂
        | ok fl₂ =>
          cases fl₂ with
          | ret r =>
            obtain ⟨rfl, h', tk, rfl, hS', hk'⟩ := hr₂
            repeat (any_goals (first | assumption | wp_step))
            exact h _ _ hS' hk'
          | _ => exact hr₂.elim
    | _ => exact hr.elim

end
end FS
set_option Elab.async false
set_option linter.all false
set_option maxRecDepth 100000
set_option maxHeartbeats 4000000
namespace FS
open PySem PySem.Spec PyProof.Rows L2 PpSet
/-! ### sorted(set(t)), t a tuple of texts -/
def rSetT (K : PySem.W.Frag) (w : World) : List V → Hp → VK → Prop := fun vs H Q => ∃ (p : Addr) (ss : List Str), vs = [V.ref p] ∧ SqT K H p (ss.map V.str) ∧ ss.length + 1 < scanBound ∧ ∀ q, H q = none → Q (.ref q) (upd H q (TxO w q (setT ss)))
theorem cr_setT {X : Cx} (hc : X.calm = true) : CallR X (.type "set") (rSetT X.K X.w) := by
  rintro pins s σ H vs us Q I r ⟨p, ss, rfl, hq, hb, q⟩
  rw [Vals.ref1 r]
  obtain ⟨its, rv, pt, hz⟩ := I.tuple hq
  refine call_set_tupT ss (I.ok.hd hc) (show s.heap.IsTuple p its.toArray from pt) (show StrsAre its.toArray.toList ss from strs_of_vals rv) hb fun h' tk R k => ?_
  have n0 : H s.heap.objs.size = none := I.hok.fresh (Nat.le_refl _)
  exact ⟨.ref s.heap.objs.size, _, I.laid (t' := tk) k (Nat.le_refl _) (txO_new R), rfl, q _ n0⟩
def cSortT (f : G) : G := fun ρ S => match f ρ S with
  | some (.tup ds, S1) => match strsD ds with
    | some ss => if ss.length < 64 then some (.lst ((sortT (setT ss)).map D.str), S1) else none
    | none => none
  | _ => none
section
variable {X : Cx} {a : Expr} {f : G} {p p2 p3 p4 : Pos}
theorem cSortT_of {K : PySem.W.Frag} {wd : World} : ∀ σ H Q, tE K (cSortT f) σ H Q → tE K f σ H fun v H1 => rSetT K wd [v] H1 fun x H2 => rSortTx wd [x] H2 Q := by
  rintro σ H Q ⟨rs, ι, ρ, S, d, S', R, En, hf, kk⟩
  unfold cSortT at hf
  split at hf
  case h_2 => cases hf
  rename_i ds S1 e1
  split at hf
  case h_2 => cases hf
  rename_i ss ess
  split at hf
  case isFalse => cases hf
  rename_i hss
  cases hf
  refine tE.go R En e1 fun ι1 H1 v E1 R1 En1 a1 => ?_
  cases a1 with
  | tup hq z l =>
    obtain rfl := strsD_at l ess
    refine ⟨_, ss, rfl, hq, by unfold scanBound; omega, fun q hq0 => ⟨q, setT ss, rfl, upd_same, Nat.lt_of_le_of_lt (setT_len ss) hss, fun ys p srt pm hp => ?_⟩⟩
    have hz : (ys.map V.str).length ≤ sizeLine := by
      have h1 := setT_len ss
      rw [List.length_map, pm.length_eq, sL]
      omega
    exact (kk.from (E1.trans (Ext.fresh hq0))).lst (ds := (sortT (setT ss)).map D.str) (vs := ys.map V.str) (R1.fresh hq0) hp hz (by rw [sortT_of srt pm]; exact strs_at _ _ _ _ _)
theorem de_sortT (hc : X.calm = true) (hg0 : Gl X "sorted") (hm : X.mg "sorted" = none) (hg1 : Gl X "set") (hm1 : X.mg "set" = none) (ha : DE X a f)
    (h0 : starEach [a] X.env = (false, eval a X.env) :: starEach [] X.env := by rfl) (hp0 : (backTo p3 (starEach [] X.env)).any (·.1) = false := by rfl)
    (h1 : starEach [.Call (.Name "set" p4) [a] [] p3] X.env = (false, eval (.Call (.Name "set" p4) [a] [] p3) X.env) :: starEach [] X.env := by rfl) (hpl : (backTo p2 (starEach [] X.env)).any (·.1) = false := by rfl) :
    DE X (.Call (.Name "sorted" p) [.Call (.Name "set" p4) [a] [] p3] [] p2) (cSortT f) :=
  PE.imp (pe_callB (cr_sortTx hc) hg0 hm (by decide +kernel) (pa_cons (pe_callTy (cr_setT hc) hg1 hm1 (by decide +kernel) (pa_cons ha pa_nil h0) (by decide) (by decide) h0 hp0) pa_nil h1) (by decide) (by decide) h1 hpl) fun σ H Q q => cSortT_of σ H Q q
end
end FS
set_option Elab.async false
set_option linter.all false
set_option maxRecDepth 100000
namespace Gn
open PySem PySem.Spec PyProof.Rows L2 FS
def b__law_reader : B := (cRet (cDisp (((cC (.str "cells")), (cOp listO (cCons (cSl (cVar 0) cNoP (cP (cC (.int 63)))) cNil))) :: (((cC (.str "spot")), (cC (.int 0))) :: (((cC (.str "rest")), (cC (.int 0))) :: (((cC (.str "calls")), (cC (.int 0))) :: []))))))
def F__law_reader : Fn := runFn 1 1 b__law_reader
def b__law_draw : B := (cSeq (cSet 2 (cBin addO (cDget (cVar 0) (cC (.str "calls"))) (cC (.int 1))))
    (cSeq (cDput (cVar 0) (cC (.str "calls")) (cVar 2))
    (cSeq (cIfS (cTest (cBin gtO (cDget (cVar 0) (cC (.str "rest"))) (cC (.int 0)))) (cSeq (cSet 3 (cBin modO (cOp intOne (cCons (cDget (cVar 0) (cC (.str "rest"))) cNil)) (cVar 1)))
    (cSeq (cDput (cVar 0) (cC (.str "rest")) (cBin divO (cDget (cVar 0) (cC (.str "rest"))) (cVar 1)))
    (cRet (cVar 3)))) cNx)
    (cSeq (cSet 4 (cDget (cVar 0) (cC (.str "spot"))))
    (cSeq (cDput (cVar 0) (cC (.str "spot")) (cBin addO (cVar 4) (cC (.int 1))))
    (cSeq (cSet 5 (cDget (cVar 0) (cC (.str "cells"))))
    (cSeq (cSet 6 (cIf (cTest (cBin gtO (cOp lenO (cCons (cVar 5) cNil)) (cC (.int 0)))) (cBin ixO (cVar 5) (cBin modO (cOp intOne (cCons (cVar 4) cNil)) (cOp lenO (cCons (cVar 5) cNil)))) (cC (.int 23))))
    (cSeq (cIfS (cAndT (cTest (cBin ltO (cVar 4) (cOp lenO (cCons (cVar 5) cNil)))) (cTest (cBin geO (cVar 6) (cBin powO (cC (.int 10)) (cC (.int 18)))))) (cSeq (cDput (cVar 0) (cC (.str "rest")) (cBin divO (cVar 6) (cVar 1)))
    (cRet (cBin modO (cOp intOne (cCons (cVar 6) cNil)) (cVar 1)))) cNx)
    (cSeq (cSet 7 (cBin modO (cOp intOne (cCons (cBin powO (cBin addO (cBin addO (cBin modO (cOp intOne (cCons (cVar 6) cNil)) (cC (.int 2147483629))) (cBin mulO (cC (.int 6131)) (cVar 2))) (cC (.int 37))) (cC (.int 5))) cNil)) (cC (.int 2147483647))))
    (cRet (cBin modO (cOp intOne (cCons (cBin divO (cBin modO (cOp intOne (cCons (cBin powO (cBin addO (cVar 7) (cBin mulO (cBin mulO (cC (.int 4177)) (cVar 2)) (cVar 2))) (cC (.int 5))) cNil)) (cC (.int 2147483587))) (cC (.int 32))) cNil)) (cVar 1))))))))))))
def F__law_draw : Fn := settled (runFn 2 8 b__law_draw)
def b__law_fills : B := (cRet (cIf (cTest (cBin (eqO false) (cBin ixO (cVar 0) (cC (.int 0))) (cC (.str "order")))) (cBin ixO (cVar 0) (cC (.int 5))) (cIf (cTest (cBin (eqO false) (cBin ixO (cVar 0) (cC (.int 0))) (cC (.str "prints")))) (cBin ixO (cVar 0) (cC (.int 1))) (cTup cNil))))
def F__law_fills : Fn := settled (runFn 1 1 b__law_fills)
def b__law_trades : B := (cSeq (cSet 3 (cNew cNil))
    (cSeq (cFor (sRng1 (cCons (cOp minO (cCons (cBin addO (cVar 1) (cC (.int 1))) (cCons (cOp lenO (cCons (cVar 0) cNil)) cNil))) cNil)) (gNm 4) (cSeq (cSet 5 (cBin ixO (cVar 0) (cVar 4)))
    (cSeq (cFor (sSeq (cSl (cCall F__law_fills [] (cCons (cVar 5) cNil)) cNoP (cP (cIf (cTest (cBin ltO (cVar 4) (cVar 1))) (cOp lenO (cCons (cCall F__law_fills [] (cCons (cVar 5) cNil)) cNil)) (cVar 2))))) (gTp ((gNm 6) :: ((gNm 7) :: ((gNm 8) :: [])))) (cSeq (cIfS (cTest (cBin (eqO false) (cBin ixO (cVar 5) (cC (.int 0))) (cC (.str "order")))) (cDrop (cMeth isL appendO (cVar 3) (cCons (cTup (cCons (cVar 4) (cCons (cVar 7) cNil))) cNil))) cNx)
    (cIfS (cTest (cBin (isO true) (cVar 8) (cC .non))) (cDrop (cMeth isL appendO (cVar 3) (cCons (cTup (cCons (cVar 8) (cCons (cVar 7) cNil))) cNil))) cNx)))
    (cIfS (cAndT (cTest (cBin (eqO false) (cBin ixO (cVar 5) (cC (.int 0))) (cC (.str "call")))) (cTest (cBin ltO (cVar 4) (cVar 1)))) (cDrop (cMeth isL extO (cVar 3) (cCons (cBin ixO (cVar 5) (cC (.int 2))) cNil))) cNx))))
    (cRet (cVar 3))))
def F__law_trades : Fn := settled (runFn 3 9 b__law_trades)
def b__law_rest : B := (cRet (cBin subO (cBin ixO (cBin ixO (cVar 0) (cVar 1)) (cC (.int 4))) (cOp sumO (cCons (cLc (sSeq (cCall F__law_trades [] (cCons (cVar 0) (cCons (cVar 2) (cCons (cVar 3) cNil))))) (gTp ((gNm 4) :: ((gNm 5) :: []))) (cTest (cBin (eqO false) (cVar 4) (cVar 1))) (cVar 5) [4, 5]) cNil))))
def F__law_rest : Fn := settled (runFn 4 6 b__law_rest)
def b__law_orders : B := (cRet (cLc (sRng1 (cCons (cOp lenO (cCons (cVar 0) cNil)) cNil)) (gNm 1) (cTest (cBin (eqO false) (cBin ixO (cBin ixO (cVar 0) (cVar 1)) (cC (.int 0))) (cC (.str "order")))) (cVar 1) [1]))
def F__law_orders : Fn := settled (runFn 1 2 b__law_orders)
def b__law_open : B := (cSeq (cSet 3 (cLc (sSeq (cSl (cVar 0) cNoP (cP (cVar 1)))) (gNm 8) (cTest (cBin (eqO false) (cBin ixO (cVar 8) (cC (.int 0))) (cC (.str "cancel")))) (cBin ixO (cVar 8) (cC (.int 1))) [8]))
    (cSeq (cSet 4 cDnew)
    (cSeq (cFor (sSeq (cCall F__law_trades [] (cCons (cVar 0) (cCons (cVar 1) (cCons (cVar 2) cNil))))) (gTp ((gNm 5) :: ((gNm 6) :: []))) (cDput (cVar 4) (cVar 5) (cBin addO (cDget2 (cVar 4) (cVar 5) (cC (.int 0))) (cVar 6))))
    (cSeq (cSet 7 (cLc (sSeq (cCall F__law_orders [] (cCons (cVar 0) cNil))) (gNm 5) (cAndT (cTest (cBin ltO (cVar 5) (cVar 1))) (cTest (cBin (inO true) (cVar 5) (cVar 3)))) (cVar 5) [5]))
    (cRet (cLc (sSeq (cVar 7)) (gNm 5) (cTest (cBin gtO (cBin ixO (cBin ixO (cVar 0) (cVar 5)) (cC (.int 4))) (cDget2 (cVar 4) (cVar 5) (cC (.int 0))))) (cVar 5) [5]))))))
def F__law_open : Fn := settled (runFn 3 9 b__law_open)
def b__law_is_shut : B := (cRet (cAnd (cBin gtO (cVar 1) (cC (.int 0))) (cAnd (cBin (eqO false) (cBin ixO (cVar 0) (cC (.int 0))) (cTup (cCons (cC (.str "closed")) cNil))) (cBin (eqO false) (cLc (sSeq (cSl (cVar 0) (cP (cC (.int 1))) (cP (cVar 1)))) (gNm 2) (cTest (cBin (eqO false) (cBin ixO (cVar 2) (cC (.int 0))) (cC (.str "call")))) (cVar 2) [2]) (cLst cNil)))))
def F__law_is_shut : Fn := settled (runFn 2 3 b__law_is_shut)
def b__law_new_fills : B := (cSeq (cPar 6 7 (cCons (cNew cNil) (cCons (cOp lenO (cCons (cVar 1) cNil)) cNil)))
    (cSeq (cFor (sRng1 (cCons (cCall F__law_draw [] (cCons (cVar 0) (cCons (cBin addO (cVar 2) (cC (.int 1))) cNil))) cNil)) (gNm 8) (cSeq (cSet 9 (cBin addO (cVar 1) (cLst (cCons (cTup (cCons (cC (.str "prints")) (cCons (cOp tupleO (cCons (cVar 6) cNil)) cNil))) cNil))))
    (cSeq (cSet 10 (cLc (sSeq (cCall F__law_open [] (cCons (cVar 9) (cCons (cVar 7) (cCons (cOp lenO (cCons (cVar 6) cNil)) cNil))))) (gNm 12) (cOrT (cTest (cBin (isO false) (cVar 4) (cC .non))) (cTest (cBin (eqO true) (cBin ixO (cBin ixO (cVar 1) (cVar 12)) (cC (.int 2))) (cVar 4)))) (cVar 12) [12]))
    (cSeq (cIfS (cTest (cBin (isO true) (cVar 4) (cC .non))) (cSet 10 (cLc (sSeq (cVar 10)) (gNm 12) (cTest (cBin leO (cBin mulO (cBin subO (cBin ixO (cBin ixO (cVar 1) (cVar 12)) (cC (.int 3))) (cVar 5)) (cIf (cTest (cBin (eqO false) (cVar 4) (cC (.str "buy")))) (cC (.int 1)) (cUn negO (cC (.int 1))))) (cC (.int 0)))) (cVar 12) [12])) cNx)
    (cSeq (cSet 11 (cBin subO (cVar 3) (cOp sumO (cCons (cLc (sSeq (cVar 6)) (gNm 15) cYes (cBin ixO (cVar 15) (cC (.int 1))) [15]) cNil))))
    (cSeq (cSet 12 (cIf (cAndT (cTest (cBin (eqO true) (cVar 10) (cLst cNil))) (cTest (cBin gtO (cCall F__law_draw [] (cCons (cVar 0) (cCons (cC (.int 4)) cNil))) (cC (.int 0))))) (cBin ixO (cVar 10) (cCall F__law_draw [] (cCons (cVar 0) (cCons (cOp lenO (cCons (cVar 10) cNil)) cNil)))) (cC .non)))
    (cSeq (cSet 13 (cIf (cTest (cBin (isO true) (cVar 12) (cC .non))) (cOp minO (cCons (cVar 11) (cCons (cCall F__law_rest [] (cCons (cVar 9) (cCons (cVar 12) (cCons (cVar 7) (cCons (cOp lenO (cCons (cVar 6) cNil)) cNil))))) cNil))) (cVar 11)))
    (cIfS (cTest (cBin gtO (cVar 13) (cC (.int 0)))) (cSeq (cSet 14 (cIf (cTest (cBin (isO true) (cVar 12) (cC .non))) (cBin ixO (cBin ixO (cVar 1) (cVar 12)) (cC (.int 3))) (cBin addO (cC (.int 8)) (cCall F__law_draw [] (cCons (cVar 0) (cCons (cC (.int 5)) cNil))))))
    (cSeq (cIfS (cAndT (cTest (cBin (isO false) (cVar 12) (cC .non))) (cTest (cBin (isO true) (cVar 4) (cC .non)))) (cSet 14 (cBin addO (cVar 5) (cBin mulO (cCall F__law_draw [] (cCons (cVar 0) (cCons (cC (.int 3)) cNil))) (cIf (cTest (cBin (eqO false) (cVar 4) (cC (.str "buy")))) (cUn negO (cC (.int 1))) (cC (.int 1)))))) cNx)
    (cDrop (cMeth isL appendO (cVar 6) (cCons (cTup (cCons (cVar 14) (cCons (cBin addO (cC (.int 1)) (cCall F__law_draw [] (cCons (cVar 0) (cCons (cOp minO (cCons (cVar 13) (cCons (cC (.int 3)) cNil))) cNil)))) (cCons (cVar 12) cNil)))) cNil))))) cNx))))))))
    (cRet (cOp tupleO (cCons (cVar 6) cNil)))))
def F__law_new_fills : Fn := settled (runFn 6 16 b__law_new_fills)
def b__law_new_row : B := (cSeq (cAsg (cTup (cCons (cOp lenO (cCons (cVar 1) cNil)) (cCons (cCall F__law_is_shut [] (cCons (cVar 1) (cCons (cOp lenO (cCons (cVar 1) cNil)) cNil))) cNil))) (gTp ((gNm 2) :: ((gNm 3) :: []))))
    (cSeq (cPar 4 5 (cCons (cCall F__law_open [] (cCons (cVar 1) (cCons (cVar 2) (cCons (cC (.int 0)) cNil)))) (cCons (cCall F__law_draw [] (cCons (cVar 0) (cCons (cC (.int 8)) cNil))) cNil)))
    (cSeq (cIfS (cAndT (cTest (cVar 3)) (cTest (cBin (eqO false) (cVar 5) (cC (.int 7))))) (cSeq (cSet 6 (cBin addO (cC (.int 8)) (cCall F__law_draw [] (cCons (cVar 0) (cCons (cC (.int 5)) cNil)))))
    (cSeq (cSet 7 (cLc (sSeq (cVar 4)) (gNm 13) (cOrT (cTest (cBin (eqO false) (cBin geO (cBin ixO (cBin ixO (cVar 1) (cVar 13)) (cC (.int 3))) (cVar 6)) (cBin (eqO false) (cBin ixO (cBin ixO (cVar 1) (cVar 13)) (cC (.int 2))) (cC (.str "buy"))))) (cTest (cBin (eqO false) (cBin ixO (cBin ixO (cVar 1) (cVar 13)) (cC (.int 3))) (cVar 6)))) (cVar 13) [13]))
    (cSeq (cSet 8 (cLc (sSeq (cSl3 (cVar 7) (cP (cCall F__law_draw [] (cCons (cVar 0) (cCons (cC (.int 2)) cNil)))) cNoP (cP (cC (.int 2))))) (gNm 13) cYes (cTup (cCons (cVar 13) (cCons (cBin addO (cC (.int 1)) (cCall F__law_draw [] (cCons (cVar 0) (cCons (cCall F__law_rest [] (cCons (cVar 1) (cCons (cVar 13) (cCons (cVar 2) (cCons (cC (.int 0)) cNil))))) cNil)))) cNil))) [13]))
    (cRet (cIf (cOrT (cTest (cBin (eqO true) (cVar 8) (cLst cNil))) (cTest (cBin (eqO false) (cCall F__law_draw [] (cCons (cVar 0) (cCons (cC (.int 2)) cNil))) (cC (.int 0))))) (cTup (cCons (cC (.str "call")) (cCons (cVar 6) (cCons (cOp tupleO (cCons (cVar 8) cNil)) cNil)))) (cTup (cCons (cC (.str "call")) (cCons (cC .non) (cCons (cTup cNil) cNil))))))))) cNx)
    (cSeq (cIfS (cAndT (cTest (cBin (eqO false) (cVar 5) (cC (.int 6)))) (cTest (cBin (eqO true) (cVar 4) (cLst cNil)))) (cRet (cTup (cCons (cC (.str "cancel")) (cCons (cBin ixO (cVar 4) (cCall F__law_draw [] (cCons (cVar 0) (cCons (cOp lenO (cCons (cVar 4) cNil)) cNil)))) cNil)))) cNx)
    (cSeq (cIfS (cTest (cBin gtO (cVar 5) (cC (.int 3)))) (cRet (cTup (cCons (cC (.str "prints")) (cCons (cIf (cTest (cVar 3)) (cTup cNil) (cCall F__law_new_fills [] (cCons (cVar 0) (cCons (cVar 1) (cCons (cC (.int 2)) (cCons (cC (.int 9)) (cCons (cC .non) (cCons (cC (.int 0)) cNil)))))))) cNil)))) cNx)
    (cSeq (cAsg (cTup (cCons (cBin ixO (cLst (cCons (cC (.str "buy")) (cCons (cC (.str "sell")) cNil))) (cCall F__law_draw [] (cCons (cVar 0) (cCons (cC (.int 2)) cNil)))) (cCons (cBin addO (cC (.int 8)) (cCall F__law_draw [] (cCons (cVar 0) (cCons (cC (.int 5)) cNil)))) cNil))) (gTp ((gNm 9) :: ((gNm 6) :: []))))
    (cSeq (cPar 10 11 (cCons (cBin addO (cC (.int 1)) (cCall F__law_draw [] (cCons (cVar 0) (cCons (cC (.int 6)) cNil)))) (cCons (cBin ixO (cLst (cCons (cC (.str "ann")) (cCons (cC (.str "bob")) (cCons (cC (.str "cy")) cNil)))) (cCall F__law_draw [] (cCons (cVar 0) (cCons (cC (.int 3)) cNil)))) cNil)))
    (cSeq (cSet 12 (cIf (cTest (cVar 3)) (cTup cNil) (cCall F__law_new_fills [] (cCons (cVar 0) (cCons (cVar 1) (cCons (cC (.int 2)) (cCons (cVar 10) (cCons (cVar 9) (cCons (cVar 6) cNil)))))))))
    (cRet (cTup (cCons (cC (.str "order")) (cCons (cVar 11) (cCons (cVar 9) (cCons (cVar 6) (cCons (cVar 10) (cCons (cVar 12) cNil))))))))))))))))
def F__law_new_row : Fn := settled (runFn 2 14 b__law_new_row)
def b__law_random_rows : B := (cSeq (cSet 2 (cIf (cTest (cBin (eqO false) (cCall F__law_draw [] (cCons (cVar 0) (cCons (cC (.int 3)) cNil))) (cC (.int 0)))) (cNew (cCons (cTup (cCons (cC (.str "closed")) cNil)) cNil)) (cNew cNil)))
    (cSeq (cFor (sRng1 (cCons (cCall F__law_draw [] (cCons (cVar 0) (cCons (cBin addO (cVar 1) (cC (.int 1))) cNil))) cNil)) (gNm 3) (cDrop (cMeth isL appendO (cVar 2) (cCons (cCall F__law_new_row [] (cCons (cVar 0) (cCons (cVar 2) cNil))) cNil))))
    (cRet (cVar 2))))
def F__law_random_rows : Fn := settled (runFn 2 4 b__law_random_rows)
def b__law_random_record : B := (cRet (cTup (cCons (cBin ixO (cLst (cCons (cC (.str "time")) (cCons (cC (.str "late")) (cCons (cC (.str "price")) cNil)))) (cCall F__law_draw [] (cCons (cVar 0) (cCons (cC (.int 3)) cNil)))) (cCons (cOp tupleO (cCons (cCall F__law_random_rows [] (cCons (cVar 0) (cCons (cVar 1) cNil))) cNil)) cNil))))
def F__law_random_record : Fn := settled (runFn 2 2 b__law_random_record)
def b__law_fixed_records : B := (cSeq (cSet 0 (cTup (cCons (cTup (cCons (cC (.str "order")) (cCons (cC (.str "ann")) (cCons (cC (.str "buy")) (cCons (cC (.int 10)) (cCons (cC (.int 3)) (cCons (cTup cNil) cNil))))))) (cCons (cTup (cCons (cC (.str "order")) (cCons (cC (.str "bob")) (cCons (cC (.str "buy")) (cCons (cC (.int 10)) (cCons (cC (.int 2)) (cCons (cTup cNil) cNil))))))) cNil))))
    (cSeq (cSet 0 (cBin addO (cVar 0) (cTup (cCons (cTup (cCons (cC (.str "prints")) (cCons (cTup (cCons (cTup (cCons (cC (.int 10)) (cCons (cC (.int 1)) (cCons (cC .non) cNil)))) (cCons (cTup (cCons (cC (.int 10)) (cCons (cC (.int 1)) (cCons (cC (.int 0)) cNil)))) cNil))) cNil))) (cCons (cTup (cCons (cC (.str "prints")) (cCons (cTup (cCons (cTup (cCons (cC (.int 10)) (cCons (cC (.int 1)) (cCons (cC .non) cNil)))) cNil)) cNil))) cNil)))))
    (cSeq (cSet 1 (cTup (cCons (cTup (cCons (cC (.str "closed")) cNil)) (cCons (cTup (cCons (cC (.str "order")) (cCons (cC (.str "ann")) (cCons (cC (.str "sell")) (cCons (cC (.int 9)) (cCons (cC (.int 4)) (cCons (cTup cNil) cNil))))))) (cCons (cTup (cCons (cC (.str "order")) (cCons (cC (.str "cy")) (cCons (cC (.str "buy")) (cCons (cC (.int 11)) (cCons (cC (.int 2)) (cCons (cTup cNil) cNil))))))) (cCons (cTup (cCons (cC (.str "prints")) (cCons (cTup cNil) cNil))) cNil))))))
    (cSeq (cSet 1 (cBin addO (cVar 1) (cTup (cCons (cTup (cCons (cC (.str "order")) (cCons (cC (.str "bob")) (cCons (cC (.str "sell")) (cCons (cC (.int 9)) (cCons (cC (.int 1)) (cCons (cTup cNil) cNil))))))) (cCons (cTup (cCons (cC (.str "call")) (cCons (cC (.int 10)) (cCons (cTup (cCons (cTup (cCons (cC (.int 1)) (cCons (cC (.int 1)) cNil))) (cCons (cTup (cCons (cC (.int 2)) (cCons (cC (.int 2)) cNil))) cNil))) cNil)))) (cCons (cTup (cCons (cC (.str "cancel")) (cCons (cC (.int 1)) cNil))) cNil))))))
    (cSeq (cSet 1 (cBin addO (cVar 1) (cTup (cCons (cTup (cCons (cC (.str "prints")) (cCons (cTup (cCons (cTup (cCons (cC (.int 9)) (cCons (cC (.int 1)) (cCons (cC (.int 4)) cNil)))) (cCons (cTup (cCons (cC (.int 12)) (cCons (cC (.int 3)) (cCons (cC .non) cNil)))) cNil))) cNil))) cNil))))
    (cSeq (cSet 2 (cTup (cCons (cTup (cCons (cC (.str "order")) (cCons (cC (.str "ann")) (cCons (cC (.str "sell")) (cCons (cC (.int 9)) (cCons (cC (.int 2)) (cCons (cTup cNil) cNil))))))) (cCons (cTup (cCons (cC (.str "order")) (cCons (cC (.str "bob")) (cCons (cC (.str "buy")) (cCons (cC (.int 9)) (cCons (cC (.int 5)) (cCons (cTup (cCons (cTup (cCons (cC (.int 8)) (cCons (cC (.int 1)) (cCons (cC .non) cNil)))) (cCons (cTup (cCons (cC (.int 9)) (cCons (cC (.int 2)) (cCons (cC (.int 0)) cNil)))) cNil))) cNil))))))) cNil))))
    (cSeq (cSet 2 (cBin addO (cVar 2) (cTup (cCons (cTup (cCons (cC (.str "order")) (cCons (cC (.str "ann")) (cCons (cC (.str "sell")) (cCons (cC (.int 9)) (cCons (cC (.int 1)) (cCons (cTup (cCons (cTup (cCons (cC (.int 9)) (cCons (cC (.int 1)) (cCons (cC (.int 1)) cNil)))) cNil)) cNil))))))) (cCons (cTup (cCons (cC (.str "cancel")) (cCons (cC (.int 1)) cNil))) (cCons (cTup (cCons (cC (.str "prints")) (cCons (cTup (cCons (cTup (cCons (cC (.int 7)) (cCons (cC (.int 1000)) (cCons (cC .non) cNil)))) cNil)) cNil))) cNil))))))
    (cRet (cNew (cCons (cTup (cCons (cC (.str "time")) (cCons (cVar 0) cNil))) (cCons (cTup (cCons (cC (.str "late")) (cCons (cVar 1) cNil))) (cCons (cTup (cCons (cC (.str "price")) (cCons (cVar 2) cNil))) (cCons (cTup (cCons (cC (.str "time")) (cCons (cTup cNil) cNil))) (cCons (cTup (cCons (cC (.str "late")) (cCons (cTup (cCons (cTup (cCons (cC (.str "closed")) cNil)) cNil)) cNil))) cNil))))))))))))))
def F__law_fixed_records : Fn := runFn 0 3 b__law_fixed_records
end Gn
set_option Elab.async false
set_option linter.all false
set_option maxRecDepth 100000
set_option maxHeartbeats 4000000
namespace Gn
open PySem PySem.Spec PyProof.Rows L2 FS
/-! ### equal, on single values -/
section
variable {S : Sto}
theorem eqs (n : Bool) (S : Sto) (a b : Str) : eqO n S (.str a) (.str b) = eqF n (a == b) := rfl
theorem eqi (n : Bool) (S : Sto) (a b : Int) : eqO n S (.int a) (.int b) = eqF n (decide (a = b)) := rfl
theorem eqb (n : Bool) (S : Sto) (a b : Bool) : eqO n S (.bl a) (.bl b) = eqF n (a == b) := rfl
theorem eqF_f (b : Bool) : eqF false b = some (.bl b) := rfl
theorem eqF_t (b : Bool) : eqF true b = some (.bl (!b)) := rfl
end
theorem tg_order_order : ((Str.ofString "order") == (Str.ofString "order")) = true := by decide +kernel
theorem tg_order_prints : ((Str.ofString "order") == (Str.ofString "prints")) = false := by decide +kernel
theorem tg_order_call : ((Str.ofString "order") == (Str.ofString "call")) = false := by decide +kernel
theorem tg_order_cancel : ((Str.ofString "order") == (Str.ofString "cancel")) = false := by decide +kernel
theorem tg_cancel_order : ((Str.ofString "cancel") == (Str.ofString "order")) = false := by decide +kernel
theorem tg_cancel_prints : ((Str.ofString "cancel") == (Str.ofString "prints")) = false := by decide +kernel
theorem tg_cancel_call : ((Str.ofString "cancel") == (Str.ofString "call")) = false := by decide +kernel
theorem tg_cancel_cancel : ((Str.ofString "cancel") == (Str.ofString "cancel")) = true := by decide +kernel
theorem tg_prints_order : ((Str.ofString "prints") == (Str.ofString "order")) = false := by decide +kernel
theorem tg_prints_prints : ((Str.ofString "prints") == (Str.ofString "prints")) = true := by decide +kernel
theorem tg_prints_call : ((Str.ofString "prints") == (Str.ofString "call")) = false := by decide +kernel
theorem tg_prints_cancel : ((Str.ofString "prints") == (Str.ofString "cancel")) = false := by decide +kernel
theorem tg_closed_order : ((Str.ofString "closed") == (Str.ofString "order")) = false := by decide +kernel
theorem tg_closed_prints : ((Str.ofString "closed") == (Str.ofString "prints")) = false := by decide +kernel
theorem tg_closed_call : ((Str.ofString "closed") == (Str.ofString "call")) = false := by decide +kernel
theorem tg_closed_cancel : ((Str.ofString "closed") == (Str.ofString "cancel")) = false := by decide +kernel
theorem tg_call_order : ((Str.ofString "call") == (Str.ofString "order")) = false := by decide +kernel
theorem tg_call_prints : ((Str.ofString "call") == (Str.ofString "prints")) = false := by decide +kernel
theorem tg_call_call : ((Str.ofString "call") == (Str.ofString "call")) = true := by decide +kernel
theorem tg_call_cancel : ((Str.ofString "call") == (Str.ofString "cancel")) = false := by decide +kernel
theorem tg_buy_buy : ((Str.ofString "buy") == (Str.ofString "buy")) = true := by decide +kernel
theorem tg_buy_sell : ((Str.ofString "buy") == (Str.ofString "sell")) = false := by decide +kernel
theorem tg_sell_buy : ((Str.ofString "sell") == (Str.ofString "buy")) = false := by decide +kernel
theorem tg_sell_sell : ((Str.ofString "sell") == (Str.ofString "sell")) = true := by decide +kernel
local macro_rules | `(tactic| walk_at "ev") => `(tactic| simp only [runFn, cSeq, cSet, cIfS, cRet, cRetN, cNx, cDrop, cVar, cC, cBin, cTest, cAndT, cOrT, cNotT, cAnd, cOr, cNot, cUn, cIf, cNil, cCons, cTup, cLst, cNew, cCall, cOp, cStar, cFmt, cJoined, cJs, cMeth, cSl, cP, cNoP, cPar, cAsg, cMatch, cCase, cLc, cFor, sSeq, cYes, cDget, cDget2, cDput, cDnew, wipeR, setAll, tGs.setAll, gTp, gNm, List.length_cons, List.length_nil, List.map_cons, List.map_nil, List.append_nil, List.cons_append, List.nil_append, List.replicate, List.getElem?_cons_zero, List.getElem?_cons_succ, List.set_cons_zero, List.set_cons_succ, Nat.reduceAdd, Nat.reduceSub, ite_true, ite_false, if_true, if_false, List.singleton_append, ix0, ix1, ix2, ix3, ix4, ix5, eqs, eqi, eqb, eqF_f, eqF_t, tg_order_order, tg_order_prints, tg_order_call, tg_order_cancel, tg_cancel_order, tg_cancel_prints, tg_cancel_call, tg_cancel_cancel, tg_prints_order, tg_prints_prints, tg_prints_call, tg_prints_cancel, tg_closed_order, tg_closed_prints, tg_closed_call, tg_closed_cancel, tg_call_order, tg_call_prints, tg_call_call, tg_call_cancel, tg_buy_buy, tg_buy_sell, tg_sell_buy, tg_sell_sell])

/-! ### rows as data -/
structure Fill where
  p : Int
  z : Int
  n : Option Int
def oD : Option Int → D
  | none => .non
  | some i => .int i
def Fill.d (f : Fill) : D := .tup [.int f.p, .int f.z, oD f.n]
def pD (q : Int × Int) : D := .tup [.int q.1, .int q.2]
inductive Row where
  | order (m s : Str) (p z : Int) (fs : List Fill)
  | cancel (n : Int)
  | prints (fs : List Fill)
  | closed
  | call (p : Option Int) (ps : List (Int × Int))
def Row.d : Row → D
  | .order m s p z fs => .tup [.str "order", .str m, .str s, .int p, .int z, .tup (fs.map Fill.d)]
  | .cancel n => .tup [.str "cancel", .int n]
  | .prints fs => .tup [.str "prints", .tup (fs.map Fill.d)]
  | .closed => .tup [.str "closed"]
  | .call p ps => .tup [.str "call", oD p, .tup (ps.map pD)]
theorem closedL_of {n : Nat} {α : Type} (g : α → D) (l : List α) (h : ∀ x ∈ l, FS.closed n (g x) = true) : closedL n (l.map g) = true := by
  rw [closedL_iff]
  intro d hd
  obtain ⟨x, hx, rfl⟩ := List.mem_map.mp hd
  exact h x hx
theorem closed_oD (n : Nat) : ∀ o : Option Int, FS.closed n (oD o) = true
  | none => rfl
  | some _ => rfl
theorem closed_fill (n : Nat) (f : Fill) : FS.closed n f.d = true := by
  unfold Fill.d
  simp only [FS.closed, closedL, closed_oD, Bool.and_self]
theorem closed_fills (n : Nat) (fs : List Fill) : closedL n (fs.map Fill.d) = true := closedL_of _ _ fun x _ => closed_fill n x
theorem closed_pairs (n : Nat) (ps : List (Int × Int)) : closedL n (ps.map pD) = true := closedL_of _ _ fun x _ => rfl
theorem closed_ints (n : Nat) (ps : List Int) : closedL n (ps.map D.int) = true := closedL_of _ _ fun x _ => rfl
theorem closed_row (n : Nat) (r : Row) : FS.closed n r.d = true := by
  cases r <;> simp only [Row.d, FS.closed, closedL, closed_oD, closed_fills, closed_pairs, Bool.and_self]
theorem closed_rows (n : Nat) (rs : List Row) : closedL n (rs.map Row.d) = true := closedL_of _ _ fun x _ => closed_row n x
/-! ### fills, trades -/
def fillsOf : Row → List Fill
  | .order _ _ _ _ fs => fs
  | .prints fs => fs
  | _ => []
theorem run_fills {r : Row} {S : Sto} (c : Clo S) : F__law_fills [r.d] S = some (.tup ((fillsOf r).map Fill.d), S) := by
  refine settled_same ?_ c (by simp only [FS.closed]; exact closed_fills _ _)
  cases r <;> (unfold b__law_fills Row.d fillsOf; try walk_at "ev")
  all_goals first | rfl | (rw [if_pos (Nat.zero_le _)]; rfl)
def isOrd : Row → Bool
  | .order .. => true
  | _ => false
def fillTr (s : Int) (r : Row) (f : Fill) : List (Int × Int) := (if isOrd r then [(s, f.z)] else []) ++ (match f.n with | some n => [(n, f.z)] | none => [])
def callPs : Row → List (Int × Int)
  | .call _ ps => ps
  | _ => []
/-- what is traded in the row s, up to the fill i of the row t -/
def rowTr (rows : List Row) (t i s : Nat) : List (Int × Int) := match rows[s]? with
  | some r => ((fillsOf r).take (if s < t then (fillsOf r).length else i)).flatMap (fillTr s r) ++ (if s < t then callPs r else [])
  | none => []
def tradesTo (rows : List Row) (t i k : Nat) : List (Int × Int) := (List.range k).flatMap (rowTr rows t i)
def tradesL (rows : List Row) (t i : Nat) : List (Int × Int) := tradesTo rows t i (min (t + 1) rows.length)
/-- short rows -/
def Short (rows : List Row) : Prop := rows.length ≤ 1000 ∧ ∀ r ∈ rows, (fillsOf r).length ≤ 1000 ∧ (callPs r).length ≤ 1000
theorem fillTr_len (s : Int) (r : Row) (f : Fill) : (fillTr s r f).length ≤ 2 := by
  unfold fillTr
  cases isOrd r <;> cases f.n <;> simp
theorem flatMap_len {α β : Type} (g : α → List β) (k : Nat) : ∀ (l : List α), (∀ x ∈ l, (g x).length ≤ k) → (l.flatMap g).length ≤ k * l.length
  | [], _ => by simp
  | x :: xs, h => by
    have h1 := h x List.mem_cons_self
    have h2 := flatMap_len g k xs fun y hy => h y (List.mem_cons_of_mem _ hy)
    rw [List.flatMap_cons, List.length_append, List.length_cons, Nat.mul_succ]
    omega
theorem rowTr_len {rows : List Row} (h : Short rows) (t i s : Nat) : (rowTr rows t i s).length ≤ 3000 := by
  unfold rowTr
  split
  · rename_i r e
    have hr := h.2 r (List.mem_of_getElem? e)
    rw [List.length_append]
    have h1 := flatMap_len (fillTr s r) 2 ((fillsOf r).take (if s < t then (fillsOf r).length else i)) fun x _ => fillTr_len s r x
    have h2 : ((fillsOf r).take (if s < t then (fillsOf r).length else i)).length ≤ 1000 := by rw [List.length_take]; omega
    have h3 : (if s < t then callPs r else []).length ≤ 1000 := by
      split
      · exact hr.2
      · simp
    omega
  · simp
theorem tradesTo_len {rows : List Row} (h : Short rows) (t i k : Nat) : (tradesTo rows t i k).length ≤ 3000 * k := by
  have := flatMap_len (rowTr rows t i) 3000 (List.range k) fun x _ => rowTr_len h t i x
  rw [List.length_range] at this
  exact this
theorem tradesTo_succ (rows : List Row) (t i k : Nat) : tradesTo rows t i (k + 1) = tradesTo rows t i k ++ rowTr rows t i k := by
  unfold tradesTo
  rw [List.range_succ, List.flatMap_append]
  simp
end Gn
set_option Elab.async false
set_option linter.all false
set_option maxRecDepth 100000
set_option maxHeartbeats 4000000
namespace Gn
open PySem PySem.Spec PyProof.Rows L2 FS
local macro_rules | `(tactic| walk_at "w") => `(tactic| first | (with_reducible refine w_seq ?_) | (with_reducible refine w_set ?_) | (with_reducible refine w_ret ?_) | (with_reducible refine w_drop ?_) | (with_reducible refine w_nx ?_) | (with_reducible refine w_bin ?_) | (with_reducible refine w_test ?_) | (with_reducible refine w_andT ?_) | (with_reducible refine w_orT ?_) | (with_reducible refine w_notT ?_) | (with_reducible refine w_and ?_) | (with_reducible refine w_nil ?_) | (with_reducible refine w_cons ?_) | (with_reducible refine w_op ?_) | (with_reducible refine w_call0 ?_) | (with_reducible refine w_sl ?_) | (with_reducible refine w_nop ?_) | (with_reducible refine w_p ?_) | (with_reducible refine w_yes ?_) | (with_reducible refine w_c ?_) | (with_reducible refine w_un ?_) | (with_reducible refine w_par ?_) | (with_reducible refine w_asg ?_) | (with_reducible refine w_ifs ?_) | (with_reducible refine w_if ?_) | (with_reducible refine o_add ?_) | (with_reducible refine o_sub ?_) | (with_reducible refine o_lt ?_) | (with_reducible refine o_le ?_) | (with_reducible refine o_gt ?_) | (with_reducible refine o_ge ?_) | (with_reducible refine o_eqs ?_) | (with_reducible refine o_eqi ?_) | (with_reducible refine o_eqb ?_) | (with_reducible refine o_nes ?_) | (with_reducible refine o_nei ?_) | (with_reducible refine o_isnn ?_) | (with_reducible refine o_isni ?_) | (with_reducible refine o_isns ?_) | (with_reducible refine o_min ?_) | (with_reducible refine o_int ?_) | (with_reducible refine o_neg ?_) | (with_reducible refine o_lenT ?_) | (with_reducible refine o_lenL ?_) | (with_reducible refine sq_nx ?_) | (with_reducible refine sq_rt ?_) | ((with_reducible apply w_var); focus exact rfl) | (with_reducible refine w_tup ?_) | (with_reducible refine w_lst ?_) | (with_reducible refine w_new ?_) | ((with_reducible refine sz_and ?_ ?_); focus (simp only [List.length_cons, List.length_nil, sL] <;> omega)) | (with_reducible refine w_meth ?_) | (with_reducible refine w_lc ?_) | (with_reducible refine w_dput ?_) | (with_reducible refine w_dget ?_) | (with_reducible refine w_dget2 ?_) | ((with_reducible apply ex_rfl); focus exact rfl) | (with_reducible refine o_mod (by decide) ?_))
local macro_rules | `(tactic| walk_at "v") => `(tactic| first | (with_reducible refine w_seq ?_) | (with_reducible refine w_set ?_) | (with_reducible refine w_ret ?_) | (with_reducible refine w_drop ?_) | (with_reducible refine w_nx ?_) | (with_reducible refine w_bin ?_) | (with_reducible refine w_test ?_) | (with_reducible refine w_andT ?_) | (with_reducible refine w_orT ?_) | (with_reducible refine w_notT ?_) | (with_reducible refine w_and ?_) | (with_reducible refine w_nil ?_) | (with_reducible refine w_cons ?_) | (with_reducible refine w_op ?_) | (with_reducible refine w_call0 ?_) | (with_reducible refine w_sl ?_) | (with_reducible refine w_nop ?_) | (with_reducible refine w_p ?_) | (with_reducible refine w_yes ?_) | (with_reducible refine w_c ?_) | (with_reducible refine w_un ?_) | (with_reducible refine w_par ?_) | (with_reducible refine w_asg ?_) | (with_reducible refine o_add ?_) | (with_reducible refine o_sub ?_) | (with_reducible refine o_lt ?_) | (with_reducible refine o_le ?_) | (with_reducible refine o_gt ?_) | (with_reducible refine o_ge ?_) | (with_reducible refine o_eqs ?_) | (with_reducible refine o_eqi ?_) | (with_reducible refine o_eqb ?_) | (with_reducible refine o_nes ?_) | (with_reducible refine o_nei ?_) | (with_reducible refine o_isnn ?_) | (with_reducible refine o_isni ?_) | (with_reducible refine o_isns ?_) | (with_reducible refine o_min ?_) | (with_reducible refine o_int ?_) | (with_reducible refine o_neg ?_) | (with_reducible refine o_lenT ?_) | (with_reducible refine o_lenL ?_) | (with_reducible refine sq_nx ?_) | (with_reducible refine sq_rt ?_) | ((with_reducible apply w_var); focus exact rfl) | (with_reducible refine w_tup ?_) | (with_reducible refine w_lst ?_) | (with_reducible refine w_new ?_) | ((with_reducible refine sz_and ?_ ?_); focus (simp only [List.length_cons, List.length_nil, sL] <;> omega)) | (with_reducible refine w_meth ?_) | (with_reducible refine w_lc ?_) | (with_reducible refine w_dput ?_) | (with_reducible refine w_dget ?_) | (with_reducible refine w_dget2 ?_) | ((with_reducible apply ex_rfl); focus exact rfl) | (with_reducible refine o_mod (by decide) ?_))
local macro_rules | `(tactic| walk_at "u") => `(tactic| first | (with_reducible refine w_seq ?_) | (with_reducible refine w_set ?_) | (with_reducible refine w_ret ?_) | (with_reducible refine w_drop ?_) | (with_reducible refine w_nx ?_) | (with_reducible refine w_bin ?_) | (with_reducible refine w_test ?_) | (with_reducible refine w_andT ?_) | (with_reducible refine w_orT ?_) | (with_reducible refine w_notT ?_) | (with_reducible refine w_and ?_) | (with_reducible refine w_nil ?_) | (with_reducible refine w_cons ?_) | (with_reducible refine w_op ?_) | (with_reducible refine w_call0 ?_) | (with_reducible refine w_sl ?_) | (with_reducible refine w_nop ?_) | (with_reducible refine w_p ?_) | (with_reducible refine w_yes ?_) | (with_reducible refine w_c ?_) | (with_reducible refine w_un ?_) | (with_reducible refine w_par ?_) | (with_reducible refine w_asg ?_) | (with_reducible refine o_add ?_) | (with_reducible refine o_sub ?_) | (with_reducible refine o_lt ?_) | (with_reducible refine o_le ?_) | (with_reducible refine o_gt ?_) | (with_reducible refine o_ge ?_) | (with_reducible refine o_eqs ?_) | (with_reducible refine o_eqi ?_) | (with_reducible refine o_eqb ?_) | (with_reducible refine o_nes ?_) | (with_reducible refine o_nei ?_) | (with_reducible refine o_isnn ?_) | (with_reducible refine o_isni ?_) | (with_reducible refine o_isns ?_) | (with_reducible refine o_min ?_) | (with_reducible refine o_int ?_) | (with_reducible refine o_neg ?_) | (with_reducible refine o_lenT ?_) | (with_reducible refine o_lenL ?_) | (with_reducible refine sq_nx ?_) | (with_reducible refine sq_rt ?_) | ((with_reducible apply w_var); focus exact rfl) | (with_reducible refine w_tup ?_) | (with_reducible refine w_lst ?_) | (with_reducible refine w_new ?_) | ((with_reducible refine sz_and ?_ ?_); focus (simp only [List.length_cons, List.length_nil, sL] <;> omega)) | (with_reducible refine w_meth ?_)  | (with_reducible refine w_dput ?_) | (with_reducible refine w_dget ?_) | (with_reducible refine w_dget2 ?_) | ((with_reducible apply ex_rfl); focus exact rfl) | (with_reducible refine o_mod (by decide) ?_))

/-- the tag of a row -/
def tag : Row → Str
  | .order .. => "order"
  | .cancel _ => "cancel"
  | .prints _ => "prints"
  | .closed => "closed"
  | .call .. => "call"
theorem tag_at (S : Sto) (r : Row) : ixO S r.d (.int 0) = some (.str (tag r)) := by
  cases r <;> exact ix0 ..
theorem tag_ord (r : Row) : (tag r == ("order" : Str)) = isOrd r := by
  cases r <;> (simp only [tag, isOrd]; decide +kernel)
def isCall : Row → Bool
  | .call .. => true
  | _ => false
theorem tag_call (r : Row) : (tag r == ("call" : Str)) = isCall r := by
  cases r <;> (simp only [tag, isCall]; decide +kernel)
def goneOf : Row → Option Int
  | .cancel n => some n
  | _ => none
theorem tag_cancel (r : Row) : (tag r == ("cancel" : Str)) = (goneOf r).isSome := by
  cases r <;> (simp only [tag, goneOf, Option.isSome]; decide +kernel)
theorem callPs_not {r : Row} (h : isCall r = false) : callPs r = [] := by
  cases r <;> first | rfl | cases h
theorem callPs_at {r : Row} (S : Sto) (h : isCall r = true) : ixO S r.d (.int 2) = some (.tup ((callPs r).map pD)) := by
  cases r <;> first | exact ix2 .. | cases h
theorem isO_oD (neg : Bool) (S : Sto) (n : Option Int) : isO neg S (oD n) .non = some (.bl (if n.isSome then neg else !neg)) := by
  cases n <;> rfl
theorem run_trades {rows : List Row} {rd : D} {t i : Nat} {S : Sto} (c : Clo S) (hs : Short rows) (hr : sqOf S rd = some (rows.map Row.d)) : F__law_trades [rd, .int t, .int i] S = some (.lst ((tradesL rows t i).map pD), S) := by
  have main : W2 (runFn 3 9 b__law_trades [rd, .int t, .int i] S) fun d S' => d = .ref S.length ∧ S' = S ++ [.lst ((tradesL rows t i).map pD)] := by
    refine w_run rfl ?_
    unfold b__law_trades
    repeat walk_at "w"
    have hmin : min ((t : Int) + 1) ((rows.map Row.d).length : Int) = ((min (t + 1) rows.length : Nat) : Int) := by rw [List.length_map]; omega
    have hr1 : ∀ u, sqOf (S ++ [u]) rd = some (rows.map Row.d) := fun u => sqOf_app hr
    repeat walk_at "w"
    refine w_forr (S1 := S ++ [.lst []]) (min (t + 1) rows.length) (fun k ρ S1 => (∃ x4 x5 x6 x7 x8, ρ = [some rd, some (.int t), some (.int i), some (.ref S.length), x4, x5, x6, x7, x8]) ∧ S1 = S ++ [.lst ((tradesTo rows t i k).map pD)]) ?_ ⟨⟨_, _, _, _, _, rfl⟩, rfl⟩ ?_ ?_
    · refine w_src ?_ (by have := hs.1; omega)
      repeat walk_at "w"
      refine w1 (lenO_sq (hr1 _)) ?_
      repeat walk_at "w"
      exact ⟨by rw [hmin], rfl⟩
    · rintro k hk ρ S1 ⟨⟨x4, x5, x6, x7, x8, rfl⟩, rfl⟩
      have hk2 : k < rows.length := by omega
      have er : rows[k]? = some rows[k] := List.getElem?_eq_getElem hk2
      generalize hR : rows[k] = r at er
      have hrl := hs.2 r (List.mem_of_getElem? er)
      have hacc := tradesTo_len hs t i k
      have hk3 : k ≤ 1000 := by have := hs.1; omega
      have cS : ∀ xs, Clo (S ++ [.lst (List.map pD xs)]) := fun xs => c.app (closed_pairs _ _)
      refine ⟨_, rfl, ?_⟩
      repeat walk_at "w"
      refine w1 ((ixO_sq (hr1 _) k).trans (by rw [List.getElem?_map, er]; rfl)) ?_
      repeat walk_at "w"
      refine w_fors (S1 := S ++ [.lst ((tradesTo rows t i k).map pD)]) Fill.d ((fillsOf r).take (if k < t then (fillsOf r).length else i)) none (fun pre ρ S1 => (∃ x6 x7 x8, ρ = [some rd, some (.int t), some (.int i), some (.ref S.length), some (.int k), some r.d, x6, x7, x8]) ∧ S1 = S ++ [.lst ((tradesTo rows t i k ++ pre.flatMap (fillTr k r)).map pD)]) ?_ ⟨⟨_, _, _, rfl⟩, by simp⟩ ?_ ?_
      · refine w_seqT ?_
        repeat walk_at "w"
        refine w2 (run_fills (cS _)) ?_
        repeat walk_at "w"
        refine ⟨fun h => ?_, fun h => ?_⟩
        · have h2 : k < t := by have := of_decide_eq_true h; omega
          repeat walk_at "w"
          refine w2 (run_fills (cS _)) ?_
          repeat walk_at "w"
          repeat walk_at "w"
          refine w1 (slice_to _ _ _) ?_
          refine ⟨?_, rfl⟩
          rw [if_pos h2, List.length_map, List.map_take]
        · have h2 : ¬ k < t := by have := of_decide_eq_false h; omega
          repeat walk_at "w"
          refine w1 (slice_to _ _ _) ?_
          refine ⟨?_, rfl⟩
          rw [if_neg h2, List.map_take]
      · rintro pre f post e ρ S1 ⟨⟨x6, x7, x8, rfl⟩, rfl⟩
        have hpre : pre.length ≤ 1000 := by
          have := congrArg List.length e
          rw [List.length_append, List.length_take] at this
          omega
        have hl : ∀ y, ((tradesTo rows t i k ++ pre.flatMap (fillTr k r)).map pD ++ [y]).length < sizeLine := by
          intro y
          have h2 := flatMap_len (fillTr k r) 2 pre fun x _ => fillTr_len k r x
          rw [List.length_append, List.length_map, List.length_append, sL, List.length_singleton]
          omega
        have hl0 : ((tradesTo rows t i k ++ pre.flatMap (fillTr k r)).map pD).length < sizeLine := by have := hl .non; rw [List.length_append, List.length_singleton] at this; omega
        refine ⟨_, rfl, ?_⟩
        have fin : ∀ ys, ys = (if isOrd r then [(((k : Nat) : Int), f.z)] else []) ++ (match f.n with | some n => [(n, f.z)] | none => []) → (tradesTo rows t i k ++ pre.flatMap (fillTr k r)).map pD ++ ys.map pD = (tradesTo rows t i k ++ (pre ++ [f]).flatMap (fillTr k r)).map pD := by
          intro ys e
          rw [List.flatMap_append, ← List.map_append, List.append_assoc]
          congr 2
          simp only [List.flatMap_cons, List.flatMap_nil, List.append_nil]
          rw [e]
          rfl
        have key : ∀ (xs : List D), xs.length < sizeLine → xs = (tradesTo rows t i k ++ pre.flatMap (fillTr k r)).map pD ++ (if isOrd r then [(((k : Nat) : Int), f.z)] else []).map pD → ∀ x6 x7 x8 : Option D, x7 = some (.int f.z) → x8 = some (oD f.n) → W3 ((cIfS (cTest (cBin (isO true) (cVar 8) (cC .non))) (cDrop (cMeth isL appendO (cVar 3) (cCons (cTup (cCons (cVar 8) (cCons (cVar 7) cNil))) cNil))) cNx) [some rd, some (.int t), some (.int i), some (.ref S.length), some (.int k), some r.d, x6, x7, x8] (S ++ [.lst xs]))
            fun fl ρ2 S2 => (fl = .nx ∨ fl = .ct) ∧ still (((fillsOf r).take (if k < t then (fillsOf r).length else i)).map Fill.d) none S2 = true ∧ (∃ x6 x7 x8, ρ2 = [some rd, some (.int t), some (.int i), some (.ref S.length), some (.int k), some r.d, x6, x7, x8]) ∧ S2 = S ++ [.lst ((tradesTo rows t i k ++ (pre ++ [f]).flatMap (fillTr k r)).map pD)] := by
          rintro xs hx ex x6 x7 x8 rfl rfl
          repeat walk_at "w"
          refine w1 (isO_oD _ _ _) ?_
          repeat walk_at "w"
          cases hn : f.n with
          | none =>
            refine ⟨fun h => by simp at h, fun _ => ?_⟩
            repeat walk_at "w"
            refine ⟨.inl rfl, rfl, ⟨_, _, _, rfl⟩, ?_⟩
            rw [← fin (if isOrd r then [(((k : Nat) : Int), f.z)] else []) (by rw [hn, List.append_nil]), ← ex]
          | some n =>
            refine ⟨fun _ => ?_, fun h => by simp at h⟩
            repeat walk_at "w"
            refine ⟨isL_at (ap_at _), ?_⟩
            repeat walk_at "w"
            refine w2 (app_to (ap_at _) hx) ?_
            refine ⟨.inl rfl, rfl, ⟨_, _, _, rfl⟩, ?_⟩
            rw [ap_set, ex, List.append_assoc, ← fin ((if isOrd r then [(((k : Nat) : Int), f.z)] else []) ++ [(n, f.z)]) (by rw [hn])]
            simp only [List.map_append, List.map_cons, List.map_nil, pD, oD]
        refine w_mid (fun ρ1 S1 => ∃ xs, ρ1 = [some rd, some (.int t), some (.int i), some (.ref S.length), some (.int k), some r.d, some (.int f.p), some (.int f.z), some (oD f.n)] ∧ S1 = S ++ [.lst xs] ∧ xs.length < sizeLine ∧ xs = (tradesTo rows t i k ++ pre.flatMap (fillTr k r)).map pD ++ (if isOrd r then [(((k : Nat) : Int), f.z)] else []).map pD) ?_ ?_
        · repeat walk_at "w"
          refine w1 (tag_at _ r) ?_
          repeat walk_at "w"
          rw [tag_ord]
          refine ⟨fun h => ?_, fun h => ?_⟩
          · repeat walk_at "w"
            refine ⟨isL_at (ap_at _), ?_⟩
            repeat walk_at "w"
            refine w2 (app_to (ap_at _) hl0) ?_
            exact ⟨rfl, _, rfl, ap_set _ _, hl _, by rw [if_pos h]; rfl⟩
          · repeat walk_at "w"
            exact ⟨rfl, _, rfl, rfl, hl0, by rw [if_neg (by rw [h]; exact Bool.false_ne_true), List.map_nil, List.append_nil]⟩
        · rintro ρ1 S1 ⟨xs, rfl, rfl, hx, ex⟩
          exact key _ hx ex _ _ _ rfl rfl
      · rintro ρ' S' ⟨⟨x6, x7, x8, rfl⟩, rfl⟩
        have er2 : rowTr rows t i k = ((fillsOf r).take (if k < t then (fillsOf r).length else i)).flatMap (fillTr k r) ++ (if k < t then callPs r else []) := by
          unfold rowTr
          rw [er]
        have fin : (k < t → callPs r = []) → S ++ [MO.lst (List.map pD (tradesTo rows t i k ++ List.flatMap (fillTr k r) (List.take (if k < t then (fillsOf r).length else i) (fillsOf r))))] = S ++ [.lst ((tradesTo rows t i (k + 1)).map pD)] := by
          intro h
          rw [tradesTo_succ, er2]
          by_cases hk : k < t
          · rw [if_pos hk, if_pos hk, h hk, List.append_nil]
          · rw [if_neg hk, if_neg hk, List.append_nil]
        repeat walk_at "w"
        refine w1 (tag_at _ r) ?_
        repeat walk_at "w"
        rw [tag_call]
        refine ⟨fun h => ?_, fun h => ?_⟩
        · repeat walk_at "w"
          refine ⟨fun h2 => ?_, fun h2 => ?_⟩
          · have hk2 : k < t := by have := of_decide_eq_true h2; omega
            repeat walk_at "w"
            refine ⟨isL_at (ap_at _), ?_⟩
            repeat walk_at "w"
            refine w1 (callPs_at _ h) ?_
            repeat walk_at "w"
            have h3 := rowTr_len hs t i k
            refine w2 (ext_to (ap_at _) ?_) ?_
            · rw [er2, if_pos hk2, if_pos hk2] at h3
              rw [if_pos hk2]
              simp only [List.length_append, List.length_map] at h3 ⊢
              rw [sL]
              omega
            · refine ⟨.inl rfl, ⟨_, _, _, _, _, rfl⟩, ?_⟩
              rw [ap_set, tradesTo_succ, er2, if_pos hk2, if_pos hk2, ← List.map_append, List.append_assoc]
          · have hk2 : ¬ k < t := by have := of_decide_eq_false h2; omega
            repeat walk_at "w"
            exact ⟨.inl rfl, ⟨_, _, _, _, _, rfl⟩, fin fun h => absurd h hk2⟩
        · refine ⟨fun h => by simp at h, fun _ => ?_⟩
          repeat walk_at "w"
          exact ⟨.inl rfl, ⟨_, _, _, _, _, rfl⟩, fin fun _ => callPs_not h⟩
    · rintro ρ' S' ⟨⟨x4, x5, x6, x7, x8, rfl⟩, rfl⟩
      repeat walk_at "w"
      exact ⟨rfl, rfl⟩
  obtain ⟨d, S', e, rfl, rfl⟩ := main
  exact settled_lst e rfl c (Nat.le_refl _) (ap_at _) (closed_pairs _ _)
end Gn
set_option Elab.async false
set_option linter.all false
set_option maxRecDepth 100000
set_option maxHeartbeats 4000000
namespace Gn
open PySem PySem.Spec PyProof.Rows L2 FS
local macro_rules | `(tactic| walk_at "w") => `(tactic| first | (with_reducible refine w_seq ?_) | (with_reducible refine w_set ?_) | (with_reducible refine w_ret ?_) | (with_reducible refine w_drop ?_) | (with_reducible refine w_nx ?_) | (with_reducible refine w_bin ?_) | (with_reducible refine w_test ?_) | (with_reducible refine w_andT ?_) | (with_reducible refine w_orT ?_) | (with_reducible refine w_notT ?_) | (with_reducible refine w_and ?_) | (with_reducible refine w_nil ?_) | (with_reducible refine w_cons ?_) | (with_reducible refine w_op ?_) | (with_reducible refine w_call0 ?_) | (with_reducible refine w_sl ?_) | (with_reducible refine w_nop ?_) | (with_reducible refine w_p ?_) | (with_reducible refine w_yes ?_) | (with_reducible refine w_c ?_) | (with_reducible refine w_un ?_) | (with_reducible refine w_par ?_) | (with_reducible refine w_asg ?_) | (with_reducible refine w_ifs ?_) | (with_reducible refine w_if ?_) | (with_reducible refine o_add ?_) | (with_reducible refine o_sub ?_) | (with_reducible refine o_lt ?_) | (with_reducible refine o_le ?_) | (with_reducible refine o_gt ?_) | (with_reducible refine o_ge ?_) | (with_reducible refine o_eqs ?_) | (with_reducible refine o_eqi ?_) | (with_reducible refine o_eqb ?_) | (with_reducible refine o_nes ?_) | (with_reducible refine o_nei ?_) | (with_reducible refine o_isnn ?_) | (with_reducible refine o_isni ?_) | (with_reducible refine o_isns ?_) | (with_reducible refine o_min ?_) | (with_reducible refine o_int ?_) | (with_reducible refine o_neg ?_) | (with_reducible refine o_lenT ?_) | (with_reducible refine o_lenL ?_) | (with_reducible refine sq_nx ?_) | (with_reducible refine sq_rt ?_) | ((with_reducible apply w_var); focus exact rfl) | (with_reducible refine w_tup ?_) | (with_reducible refine w_lst ?_) | (with_reducible refine w_new ?_) | ((with_reducible refine sz_and ?_ ?_); focus (simp only [List.length_cons, List.length_nil, sL] <;> omega)) | (with_reducible refine w_meth ?_) | (with_reducible refine w_lc ?_) | (with_reducible refine w_dput ?_) | (with_reducible refine w_dget ?_) | (with_reducible refine w_dget2 ?_) | ((with_reducible apply ex_rfl); focus exact rfl) | (with_reducible refine o_mod (by decide) ?_))
local macro_rules | `(tactic| walk_at "v") => `(tactic| first | (with_reducible refine w_seq ?_) | (with_reducible refine w_set ?_) | (with_reducible refine w_ret ?_) | (with_reducible refine w_drop ?_) | (with_reducible refine w_nx ?_) | (with_reducible refine w_bin ?_) | (with_reducible refine w_test ?_) | (with_reducible refine w_andT ?_) | (with_reducible refine w_orT ?_) | (with_reducible refine w_notT ?_) | (with_reducible refine w_and ?_) | (with_reducible refine w_nil ?_) | (with_reducible refine w_cons ?_) | (with_reducible refine w_op ?_) | (with_reducible refine w_call0 ?_) | (with_reducible refine w_sl ?_) | (with_reducible refine w_nop ?_) | (with_reducible refine w_p ?_) | (with_reducible refine w_yes ?_) | (with_reducible refine w_c ?_) | (with_reducible refine w_un ?_) | (with_reducible refine w_par ?_) | (with_reducible refine w_asg ?_) | (with_reducible refine o_add ?_) | (with_reducible refine o_sub ?_) | (with_reducible refine o_lt ?_) | (with_reducible refine o_le ?_) | (with_reducible refine o_gt ?_) | (with_reducible refine o_ge ?_) | (with_reducible refine o_eqs ?_) | (with_reducible refine o_eqi ?_) | (with_reducible refine o_eqb ?_) | (with_reducible refine o_nes ?_) | (with_reducible refine o_nei ?_) | (with_reducible refine o_isnn ?_) | (with_reducible refine o_isni ?_) | (with_reducible refine o_isns ?_) | (with_reducible refine o_min ?_) | (with_reducible refine o_int ?_) | (with_reducible refine o_neg ?_) | (with_reducible refine o_lenT ?_) | (with_reducible refine o_lenL ?_) | (with_reducible refine sq_nx ?_) | (with_reducible refine sq_rt ?_) | ((with_reducible apply w_var); focus exact rfl) | (with_reducible refine w_tup ?_) | (with_reducible refine w_lst ?_) | (with_reducible refine w_new ?_) | ((with_reducible refine sz_and ?_ ?_); focus (simp only [List.length_cons, List.length_nil, sL] <;> omega)) | (with_reducible refine w_meth ?_) | (with_reducible refine w_lc ?_) | (with_reducible refine w_dput ?_) | (with_reducible refine w_dget ?_) | (with_reducible refine w_dget2 ?_) | ((with_reducible apply ex_rfl); focus exact rfl) | (with_reducible refine o_mod (by decide) ?_))
local macro_rules | `(tactic| walk_at "u") => `(tactic| first | (with_reducible refine w_seq ?_) | (with_reducible refine w_set ?_) | (with_reducible refine w_ret ?_) | (with_reducible refine w_drop ?_) | (with_reducible refine w_nx ?_) | (with_reducible refine w_bin ?_) | (with_reducible refine w_test ?_) | (with_reducible refine w_andT ?_) | (with_reducible refine w_orT ?_) | (with_reducible refine w_notT ?_) | (with_reducible refine w_and ?_) | (with_reducible refine w_nil ?_) | (with_reducible refine w_cons ?_) | (with_reducible refine w_op ?_) | (with_reducible refine w_call0 ?_) | (with_reducible refine w_sl ?_) | (with_reducible refine w_nop ?_) | (with_reducible refine w_p ?_) | (with_reducible refine w_yes ?_) | (with_reducible refine w_c ?_) | (with_reducible refine w_un ?_) | (with_reducible refine w_par ?_) | (with_reducible refine w_asg ?_) | (with_reducible refine o_add ?_) | (with_reducible refine o_sub ?_) | (with_reducible refine o_lt ?_) | (with_reducible refine o_le ?_) | (with_reducible refine o_gt ?_) | (with_reducible refine o_ge ?_) | (with_reducible refine o_eqs ?_) | (with_reducible refine o_eqi ?_) | (with_reducible refine o_eqb ?_) | (with_reducible refine o_nes ?_) | (with_reducible refine o_nei ?_) | (with_reducible refine o_isnn ?_) | (with_reducible refine o_isni ?_) | (with_reducible refine o_isns ?_) | (with_reducible refine o_min ?_) | (with_reducible refine o_int ?_) | (with_reducible refine o_neg ?_) | (with_reducible refine o_lenT ?_) | (with_reducible refine o_lenL ?_) | (with_reducible refine sq_nx ?_) | (with_reducible refine sq_rt ?_) | ((with_reducible apply w_var); focus exact rfl) | (with_reducible refine w_tup ?_) | (with_reducible refine w_lst ?_) | (with_reducible refine w_new ?_) | ((with_reducible refine sz_and ?_ ?_); focus (simp only [List.length_cons, List.length_nil, sL] <;> omega)) | (with_reducible refine w_meth ?_)  | (with_reducible refine w_dput ?_) | (with_reducible refine w_dget ?_) | (with_reducible refine w_dget2 ?_) | ((with_reducible apply ex_rfl); focus exact rfl) | (with_reducible refine o_mod (by decide) ?_))
theorem kk_cells_cells : decide ((Sum.inr (Str.ofString "cells") : Key) = Sum.inr (Str.ofString "cells")) = true := by decide +kernel
theorem kk_cells_spot : decide ((Sum.inr (Str.ofString "cells") : Key) = Sum.inr (Str.ofString "spot")) = false := by decide +kernel
theorem kk_cells_rest : decide ((Sum.inr (Str.ofString "cells") : Key) = Sum.inr (Str.ofString "rest")) = false := by decide +kernel
theorem kk_cells_calls : decide ((Sum.inr (Str.ofString "cells") : Key) = Sum.inr (Str.ofString "calls")) = false := by decide +kernel
theorem kk_spot_cells : decide ((Sum.inr (Str.ofString "spot") : Key) = Sum.inr (Str.ofString "cells")) = false := by decide +kernel
theorem kk_spot_spot : decide ((Sum.inr (Str.ofString "spot") : Key) = Sum.inr (Str.ofString "spot")) = true := by decide +kernel
theorem kk_spot_rest : decide ((Sum.inr (Str.ofString "spot") : Key) = Sum.inr (Str.ofString "rest")) = false := by decide +kernel
theorem kk_spot_calls : decide ((Sum.inr (Str.ofString "spot") : Key) = Sum.inr (Str.ofString "calls")) = false := by decide +kernel
theorem kk_rest_cells : decide ((Sum.inr (Str.ofString "rest") : Key) = Sum.inr (Str.ofString "cells")) = false := by decide +kernel
theorem kk_rest_spot : decide ((Sum.inr (Str.ofString "rest") : Key) = Sum.inr (Str.ofString "spot")) = false := by decide +kernel
theorem kk_rest_rest : decide ((Sum.inr (Str.ofString "rest") : Key) = Sum.inr (Str.ofString "rest")) = true := by decide +kernel
theorem kk_rest_calls : decide ((Sum.inr (Str.ofString "rest") : Key) = Sum.inr (Str.ofString "calls")) = false := by decide +kernel
theorem kk_calls_cells : decide ((Sum.inr (Str.ofString "calls") : Key) = Sum.inr (Str.ofString "cells")) = false := by decide +kernel
theorem kk_calls_spot : decide ((Sum.inr (Str.ofString "calls") : Key) = Sum.inr (Str.ofString "spot")) = false := by decide +kernel
theorem kk_calls_rest : decide ((Sum.inr (Str.ofString "calls") : Key) = Sum.inr (Str.ofString "rest")) = false := by decide +kernel
theorem kk_calls_calls : decide ((Sum.inr (Str.ofString "calls") : Key) = Sum.inr (Str.ofString "calls")) = true := by decide +kernel
theorem ks_cells_spot : ¬ (Str.ofString "cells" = Str.ofString "spot") := by decide +kernel
theorem kn_cells_spot : ¬ ((Sum.inr (Str.ofString "cells") : Key) = Sum.inr (Str.ofString "spot")) := of_decide_eq_false kk_cells_spot
theorem ks_cells_rest : ¬ (Str.ofString "cells" = Str.ofString "rest") := by decide +kernel
theorem kn_cells_rest : ¬ ((Sum.inr (Str.ofString "cells") : Key) = Sum.inr (Str.ofString "rest")) := of_decide_eq_false kk_cells_rest
theorem ks_cells_calls : ¬ (Str.ofString "cells" = Str.ofString "calls") := by decide +kernel
theorem kn_cells_calls : ¬ ((Sum.inr (Str.ofString "cells") : Key) = Sum.inr (Str.ofString "calls")) := of_decide_eq_false kk_cells_calls
theorem ks_spot_cells : ¬ (Str.ofString "spot" = Str.ofString "cells") := by decide +kernel
theorem kn_spot_cells : ¬ ((Sum.inr (Str.ofString "spot") : Key) = Sum.inr (Str.ofString "cells")) := of_decide_eq_false kk_spot_cells
theorem ks_spot_rest : ¬ (Str.ofString "spot" = Str.ofString "rest") := by decide +kernel
theorem kn_spot_rest : ¬ ((Sum.inr (Str.ofString "spot") : Key) = Sum.inr (Str.ofString "rest")) := of_decide_eq_false kk_spot_rest
theorem ks_spot_calls : ¬ (Str.ofString "spot" = Str.ofString "calls") := by decide +kernel
theorem kn_spot_calls : ¬ ((Sum.inr (Str.ofString "spot") : Key) = Sum.inr (Str.ofString "calls")) := of_decide_eq_false kk_spot_calls
theorem ks_rest_cells : ¬ (Str.ofString "rest" = Str.ofString "cells") := by decide +kernel
theorem kn_rest_cells : ¬ ((Sum.inr (Str.ofString "rest") : Key) = Sum.inr (Str.ofString "cells")) := of_decide_eq_false kk_rest_cells
theorem ks_rest_spot : ¬ (Str.ofString "rest" = Str.ofString "spot") := by decide +kernel
theorem kn_rest_spot : ¬ ((Sum.inr (Str.ofString "rest") : Key) = Sum.inr (Str.ofString "spot")) := of_decide_eq_false kk_rest_spot
theorem ks_rest_calls : ¬ (Str.ofString "rest" = Str.ofString "calls") := by decide +kernel
theorem kn_rest_calls : ¬ ((Sum.inr (Str.ofString "rest") : Key) = Sum.inr (Str.ofString "calls")) := of_decide_eq_false kk_rest_calls
theorem ks_calls_cells : ¬ (Str.ofString "calls" = Str.ofString "cells") := by decide +kernel
theorem kn_calls_cells : ¬ ((Sum.inr (Str.ofString "calls") : Key) = Sum.inr (Str.ofString "cells")) := of_decide_eq_false kk_calls_cells
theorem ks_calls_spot : ¬ (Str.ofString "calls" = Str.ofString "spot") := by decide +kernel
theorem kn_calls_spot : ¬ ((Sum.inr (Str.ofString "calls") : Key) = Sum.inr (Str.ofString "spot")) := of_decide_eq_false kk_calls_spot
theorem ks_calls_rest : ¬ (Str.ofString "calls" = Str.ofString "rest") := by decide +kernel
theorem kn_calls_rest : ¬ ((Sum.inr (Str.ofString "calls") : Key) = Sum.inr (Str.ofString "rest")) := of_decide_eq_false kk_calls_rest

/-- the reader -/
def rk (cs : D) (spot rest calls : Int) : List (Key × D) := [(.inr "cells", cs), (.inr "spot", .int spot), (.inr "rest", .int rest), (.inr "calls", .int calls)]
section
variable {cs : D} {spot rest calls v : Int}
theorem get_cells : valD (rk cs spot rest calls) (.inr "cells") = some cs := by simp only [valD, rk, List.find?, kk_cells_cells, kk_cells_spot, kk_cells_rest, kk_cells_calls, kk_spot_cells, kk_spot_spot, kk_spot_rest, kk_spot_calls, kk_rest_cells, kk_rest_spot, kk_rest_rest, kk_rest_calls, kk_calls_cells, kk_calls_spot, kk_calls_rest, kk_calls_calls, Option.map, decide_true]
theorem get_spot : valD (rk cs spot rest calls) (.inr "spot") = some (.int spot) := by simp only [valD, rk, List.find?, kk_cells_cells, kk_cells_spot, kk_cells_rest, kk_cells_calls, kk_spot_cells, kk_spot_spot, kk_spot_rest, kk_spot_calls, kk_rest_cells, kk_rest_spot, kk_rest_rest, kk_rest_calls, kk_calls_cells, kk_calls_spot, kk_calls_rest, kk_calls_calls, Option.map, decide_true]
theorem get_rest : valD (rk cs spot rest calls) (.inr "rest") = some (.int rest) := by simp only [valD, rk, List.find?, kk_cells_cells, kk_cells_spot, kk_cells_rest, kk_cells_calls, kk_spot_cells, kk_spot_spot, kk_spot_rest, kk_spot_calls, kk_rest_cells, kk_rest_spot, kk_rest_rest, kk_rest_calls, kk_calls_cells, kk_calls_spot, kk_calls_rest, kk_calls_calls, Option.map, decide_true]
theorem get_calls : valD (rk cs spot rest calls) (.inr "calls") = some (.int calls) := by simp only [valD, rk, List.find?, kk_cells_cells, kk_cells_spot, kk_cells_rest, kk_cells_calls, kk_spot_cells, kk_spot_spot, kk_spot_rest, kk_spot_calls, kk_rest_cells, kk_rest_spot, kk_rest_rest, kk_rest_calls, kk_calls_cells, kk_calls_spot, kk_calls_rest, kk_calls_calls, Option.map, decide_true]
theorem put_spot : putD (rk cs spot rest calls) (.inr "spot") (.int v) = rk cs v rest calls := by simp [putD, rk, kk_cells_cells, kk_cells_spot, kk_cells_rest, kk_cells_calls, kk_spot_cells, kk_spot_spot, kk_spot_rest, kk_spot_calls, kk_rest_cells, kk_rest_spot, kk_rest_rest, kk_rest_calls, kk_calls_cells, kk_calls_spot, kk_calls_rest, kk_calls_calls, ks_cells_spot, ks_cells_rest, ks_cells_calls, ks_spot_cells, ks_spot_rest, ks_spot_calls, ks_rest_cells, ks_rest_spot, ks_rest_calls, ks_calls_cells, ks_calls_spot, ks_calls_rest]
theorem put_rest : putD (rk cs spot rest calls) (.inr "rest") (.int v) = rk cs spot v calls := by simp [putD, rk, kk_cells_cells, kk_cells_spot, kk_cells_rest, kk_cells_calls, kk_spot_cells, kk_spot_spot, kk_spot_rest, kk_spot_calls, kk_rest_cells, kk_rest_spot, kk_rest_rest, kk_rest_calls, kk_calls_cells, kk_calls_spot, kk_calls_rest, kk_calls_calls, ks_cells_spot, ks_cells_rest, ks_cells_calls, ks_spot_cells, ks_spot_rest, ks_spot_calls, ks_rest_cells, ks_rest_spot, ks_rest_calls, ks_calls_cells, ks_calls_spot, ks_calls_rest]
theorem put_calls : putD (rk cs spot rest calls) (.inr "calls") (.int v) = rk cs spot rest v := by simp [putD, rk, kk_cells_cells, kk_cells_spot, kk_cells_rest, kk_cells_calls, kk_spot_cells, kk_spot_spot, kk_spot_rest, kk_spot_calls, kk_rest_cells, kk_rest_spot, kk_rest_rest, kk_rest_calls, kk_calls_cells, kk_calls_spot, kk_calls_rest, kk_calls_calls, ks_cells_spot, ks_cells_rest, ks_cells_calls, ks_spot_cells, ks_spot_rest, ks_spot_calls, ks_rest_cells, ks_rest_spot, ks_rest_calls, ks_calls_cells, ks_calls_spot, ks_calls_rest]
theorem rk_len : (rk cs spot rest calls).length < sizeLine := by rw [sL]; exact (by decide : 4 < 16777216)
end
theorem set_at {S : Sto} {r : Nat} {u v : MO} (h : S[r]? = some u) : (S.set r v)[r]? = some v := by
  rw [List.getElem?_set_self (List.getElem?_eq_some_iff.mp h).1]
/-- a reader that has made at most c calls -/
def RdM (u : MO) (c : Nat) : Prop := ∃ (cells : List Int) (spot : Nat) (rest : Int) (calls : Nat), u = .dct (rk (.lst (cells.map .int)) spot rest calls) ∧ 0 ≤ rest ∧ calls ≤ c
theorem RdM.mono {u : MO} {c c' : Nat} (h : RdM u c) (hc : c ≤ c') : RdM u c' := by
  obtain ⟨a, b, r, n, e, h1, h2⟩ := h
  exact ⟨a, b, r, n, e, h1, by omega⟩
theorem closed_rk {n : Nat} {cells : List Int} {spot rest calls : Int} : closedM n (.dct (rk (.lst (cells.map .int)) spot rest calls)) = true := by
  show closedL n [.lst (cells.map .int), .int spot, .int rest, .int calls] = true
  simp only [closedL, FS.closed, Bool.and_self, Bool.and_true]
  exact closed_ints _ _
theorem RdM.closed {u : MO} {c n : Nat} (h : RdM u c) : closedM n u = true := by
  obtain ⟨a, b, r, k, rfl, h1, h2⟩ := h
  exact closed_rk
theorem pow5 {a : Int} (h : 0 ≤ a) (h2 : a < 2 ^ 64) : CPow a 5 := ⟨by decide, by decide, by omega⟩
theorem run_draw {S : Sto} {r c : Nat} {u : MO} {many : Int} (cS : Clo S) (hu : S[r]? = some u) (hr : RdM u c) (hc : c ≤ 100000) (hm : 0 < many) (hm2 : many < 1073741824) :
    ∃ i u', F__law_draw [.ref r, .int many] S = some (.int i, S.set r u') ∧ RdM u' (c + 1) ∧ 0 ≤ i ∧ i < many := by
  obtain ⟨cells, spot, rest, calls, rfl, h1, h2⟩ := hr
  have main : W2 (runFn 2 8 b__law_draw [.ref r, .int many] S) fun d S' => ∃ i u', d = .int i ∧ S' = S.set r u' ∧ RdM u' (c + 1) ∧ 0 ≤ i ∧ i < many := by
    have fin : ∀ x : Int, 0 ≤ x % many ∧ x % many < many := fun x => ⟨Int.emod_nonneg x (by omega), Int.emod_lt_of_pos x hm⟩
    refine w_run rfl ?_
    unfold b__law_draw
    repeat walk_at "w"
    refine ⟨_, _, _, hu, rfl, get_calls, ?_⟩
    repeat walk_at "w"
    refine ⟨_, _, hu, rfl, rk_len, ?_⟩
    rw [put_calls]
    repeat walk_at "w"
    have hu1 : ∀ v, (S.set r v)[r]? = some v := fun v => set_at hu
    refine ⟨_, _, _, hu1 _, rfl, get_rest, ?_⟩
    repeat walk_at "w"
    refine ⟨fun h => ?_, fun h => ?_⟩
    · repeat walk_at "w"
      refine ⟨_, _, _, hu1 _, rfl, get_rest, ?_⟩
      repeat walk_at "w"
      refine o_mod hm ?_
      repeat walk_at "w"
      refine ⟨_, _, _, hu1 _, rfl, get_rest, ?_⟩
      repeat walk_at "w"
      refine o_div ⟨hm, hm2⟩ ?_
      repeat walk_at "w"
      refine ⟨_, _, hu1 _, rfl, rk_len, ?_⟩
      rw [put_rest, List.set_set]
      repeat walk_at "w"
      exact ⟨_, _, rfl, rfl, ⟨_, _, _, calls + 1, rfl, Int.ediv_nonneg h1 (by omega), by omega⟩, fin _⟩
    · repeat walk_at "w"
      refine ⟨_, _, _, hu1 _, rfl, get_spot, ?_⟩
      repeat walk_at "w"
      refine ⟨_, _, hu1 _, rfl, rk_len, ?_⟩
      rw [put_spot, List.set_set]
      repeat walk_at "w"
      refine ⟨_, _, _, hu1 _, rfl, get_cells, ?_⟩
      repeat walk_at "v"
      refine w2_mid (fun d S1 => ∃ cl : Int, d = .int cl ∧ S1 = S.set r (.dct (rk (.lst (cells.map .int)) ((spot + 1 : Nat) : Int) rest ((calls + 1 : Nat) : Int)))) ?_ ?_
      · repeat walk_at "w"
        refine ⟨fun h => ?_, fun h => ?_⟩
        · have hl : 0 < cells.length := by have := of_decide_eq_true h; rw [List.length_map] at this; omega
          repeat walk_at "w"
          refine o_mod (by have := of_decide_eq_true h; omega) ?_
          have e1 : ((spot : Int) % (((cells.map D.int).length : Nat) : Int)) = ((spot % cells.length : Nat) : Int) := by rw [List.length_map]; omega
          have e2 : spot % cells.length < cells.length := Nat.mod_lt _ hl
          refine w1 (a := .int (cells[spot % cells.length])) ?_ ?_
          · rw [e1, ixO_sq (xs := cells.map D.int) rfl, List.getElem?_map, List.getElem?_eq_getElem e2]
            rfl
          · exact ⟨_, rfl, rfl⟩
        · repeat walk_at "w"
          first | exact ⟨_, rfl, rfl⟩ | rfl
      · rintro d S1 ⟨cl, rfl, rfl⟩
        repeat walk_at "v"
        have tail : W3 (cSeq (cSet 7 (cBin modO (cOp intOne (cCons (cBin powO (cBin addO (cBin addO (cBin modO (cOp intOne (cCons (cVar 6) cNil)) (cC (.int 2147483629))) (cBin mulO (cC (.int 6131)) (cVar 2))) (cC (.int 37))) (cC (.int 5))) cNil)) (cC (.int 2147483647))))
            (cRet (cBin modO (cOp intOne (cCons (cBin divO (cBin modO (cOp intOne (cCons (cBin powO (cBin addO (cVar 7) (cBin mulO (cBin mulO (cC (.int 4177)) (cVar 2)) (cVar 2))) (cC (.int 5))) cNil)) (cC (.int 2147483587))) (cC (.int 32))) cNil)) (cVar 1)))
            [some (.ref r), some (.int many), some (.int ((calls : Int) + 1)), none, some (.int spot), some (.lst (cells.map .int)), some (.int cl), none] (S.set r (.dct (rk (.lst (cells.map .int)) ((spot + 1 : Nat) : Int) rest ((calls + 1 : Nat) : Int))))) fun fl _ S1 => ∃ d, fl = .rt d ∧ ∃ i u', d = .int i ∧ S1 = S.set r u' ∧ RdM u' (c + 1) ∧ 0 ≤ i ∧ i < many := by
          have k1 : (0 : Int) ≤ (calls : Int) + 1 ∧ (calls : Int) + 1 ≤ 100001 := by omega
          generalize (calls : Int) + 1 = cc at k1
          have m1 := Int.emod_nonneg cl (show (2147483629 : Int) ≠ 0 by decide)
          have m2 := Int.emod_lt_of_pos cl (show (0 : Int) < 2147483629 by decide)
          repeat walk_at "w"
          refine o_mul (.inl ⟨by decide, by decide⟩) ?_
          repeat walk_at "w"
          refine o_pow (pow5 (by omega) (by omega)) ?_
          repeat walk_at "w"
          generalize ((cl % 2147483629 + 6131 * cc + 37) ^ (5 : Int).toNat) = z
          have m3 := Int.emod_nonneg z (show (2147483647 : Int) ≠ 0 by decide)
          have m4 := Int.emod_lt_of_pos z (show (0 : Int) < 2147483647 by decide)
          refine o_mul (.inl ⟨by decide, by decide⟩) ?_
          repeat walk_at "w"
          have m5 : 0 ≤ 4177 * cc * cc ∧ 4177 * cc * cc ≤ 4177 * 100001 * 100001 :=
            ⟨Int.mul_nonneg (by omega) k1.1, Int.mul_le_mul (by omega) k1.2 k1.1 (by decide)⟩
          refine o_mul (.inr ⟨by omega, by omega⟩) ?_
          repeat walk_at "w"
          refine o_pow (pow5 (by omega) (by omega)) ?_
          repeat walk_at "w"
          refine o_div ⟨by decide, by decide⟩ ?_
          repeat walk_at "w"
          refine o_mod hm ?_
          exact ⟨_, rfl, _, _, rfl, rfl, ⟨_, _, _, calls + 1, rfl, h1, by omega⟩, fin _⟩
        refine w_ifs ?_
        repeat walk_at "v"
        refine ⟨fun h => ?_, fun h => ?_⟩
        · repeat walk_at "v"
          refine o_pow ⟨by decide, by decide, by decide⟩ ?_
          repeat walk_at "v"
          refine ⟨fun h3 => ?_, fun h3 => ?_⟩
          · repeat walk_at "v"
            refine o_div ⟨hm, hm2⟩ ?_
            repeat walk_at "v"
            refine ⟨_, _, hu1 _, rfl, rk_len, ?_⟩
            rw [put_rest, List.set_set]
            repeat walk_at "v"
            refine o_mod hm ?_
            have h4 := of_decide_eq_true h3
            refine ⟨_, rfl, _, _, rfl, rfl, ⟨_, _, _, calls + 1, rfl, Int.ediv_nonneg (Int.le_trans (by decide) h4) (by omega), by omega⟩, fin _⟩
          · refine w_nx (sq_nx ?_)
            exact tail
        · refine ⟨(fun h => absurd h Bool.false_ne_true), fun _ => ?_⟩
          refine w_nx (sq_nx ?_)
          exact tail
  obtain ⟨d, S', e, i, u', rfl, rfl, h3, h4⟩ := main
  refine ⟨i, u', ?_, h3, h4⟩
  exact settled_to (T := []) (by rw [List.append_nil]; exact e) (by rw [List.length_set]) (cS.set h3.closed) rfl
end Gn
set_option Elab.async false
set_option linter.all false
set_option maxRecDepth 100000
set_option maxHeartbeats 4000000
namespace Gn
open PySem PySem.Spec PyProof.Rows L2 FS
local macro_rules | `(tactic| walk_at "w") => `(tactic| first | (with_reducible refine w_seq ?_) | (with_reducible refine w_set ?_) | (with_reducible refine w_ret ?_) | (with_reducible refine w_drop ?_) | (with_reducible refine w_nx ?_) | (with_reducible refine w_bin ?_) | (with_reducible refine w_test ?_) | (with_reducible refine w_andT ?_) | (with_reducible refine w_orT ?_) | (with_reducible refine w_notT ?_) | (with_reducible refine w_and ?_) | (with_reducible refine w_nil ?_) | (with_reducible refine w_cons ?_) | (with_reducible refine w_op ?_) | (with_reducible refine w_call0 ?_) | (with_reducible refine w_sl ?_) | (with_reducible refine w_nop ?_) | (with_reducible refine w_p ?_) | (with_reducible refine w_yes ?_) | (with_reducible refine w_c ?_) | (with_reducible refine w_un ?_) | (with_reducible refine w_par ?_) | (with_reducible refine w_asg ?_) | (with_reducible refine w_ifs ?_) | (with_reducible refine w_if ?_) | (with_reducible refine o_add ?_) | (with_reducible refine o_sub ?_) | (with_reducible refine o_lt ?_) | (with_reducible refine o_le ?_) | (with_reducible refine o_gt ?_) | (with_reducible refine o_ge ?_) | (with_reducible refine o_eqs ?_) | (with_reducible refine o_eqi ?_) | (with_reducible refine o_eqb ?_) | (with_reducible refine o_nes ?_) | (with_reducible refine o_nei ?_) | (with_reducible refine o_isnn ?_) | (with_reducible refine o_isni ?_) | (with_reducible refine o_isns ?_) | (with_reducible refine o_min ?_) | (with_reducible refine o_int ?_) | (with_reducible refine o_neg ?_) | (with_reducible refine o_lenT ?_) | (with_reducible refine o_lenL ?_) | (with_reducible refine sq_nx ?_) | (with_reducible refine sq_rt ?_) | ((with_reducible apply w_var); focus exact rfl) | (with_reducible refine w_tup ?_) | (with_reducible refine w_lst ?_) | (with_reducible refine w_new ?_) | ((with_reducible refine sz_and ?_ ?_); focus (simp only [List.length_cons, List.length_nil, sL] <;> omega)) | (with_reducible refine w_meth ?_) | (with_reducible refine w_lc ?_) | (with_reducible refine w_dput ?_) | (with_reducible refine w_dget ?_) | (with_reducible refine w_dget2 ?_) | ((with_reducible apply ex_rfl); focus exact rfl) | (with_reducible refine o_mod (by decide) ?_))
local macro_rules | `(tactic| walk_at "v") => `(tactic| first | (with_reducible refine w_seq ?_) | (with_reducible refine w_set ?_) | (with_reducible refine w_ret ?_) | (with_reducible refine w_drop ?_) | (with_reducible refine w_nx ?_) | (with_reducible refine w_bin ?_) | (with_reducible refine w_test ?_) | (with_reducible refine w_andT ?_) | (with_reducible refine w_orT ?_) | (with_reducible refine w_notT ?_) | (with_reducible refine w_and ?_) | (with_reducible refine w_nil ?_) | (with_reducible refine w_cons ?_) | (with_reducible refine w_op ?_) | (with_reducible refine w_call0 ?_) | (with_reducible refine w_sl ?_) | (with_reducible refine w_nop ?_) | (with_reducible refine w_p ?_) | (with_reducible refine w_yes ?_) | (with_reducible refine w_c ?_) | (with_reducible refine w_un ?_) | (with_reducible refine w_par ?_) | (with_reducible refine w_asg ?_) | (with_reducible refine o_add ?_) | (with_reducible refine o_sub ?_) | (with_reducible refine o_lt ?_) | (with_reducible refine o_le ?_) | (with_reducible refine o_gt ?_) | (with_reducible refine o_ge ?_) | (with_reducible refine o_eqs ?_) | (with_reducible refine o_eqi ?_) | (with_reducible refine o_eqb ?_) | (with_reducible refine o_nes ?_) | (with_reducible refine o_nei ?_) | (with_reducible refine o_isnn ?_) | (with_reducible refine o_isni ?_) | (with_reducible refine o_isns ?_) | (with_reducible refine o_min ?_) | (with_reducible refine o_int ?_) | (with_reducible refine o_neg ?_) | (with_reducible refine o_lenT ?_) | (with_reducible refine o_lenL ?_) | (with_reducible refine sq_nx ?_) | (with_reducible refine sq_rt ?_) | ((with_reducible apply w_var); focus exact rfl) | (with_reducible refine w_tup ?_) | (with_reducible refine w_lst ?_) | (with_reducible refine w_new ?_) | ((with_reducible refine sz_and ?_ ?_); focus (simp only [List.length_cons, List.length_nil, sL] <;> omega)) | (with_reducible refine w_meth ?_) | (with_reducible refine w_lc ?_) | (with_reducible refine w_dput ?_) | (with_reducible refine w_dget ?_) | (with_reducible refine w_dget2 ?_) | ((with_reducible apply ex_rfl); focus exact rfl) | (with_reducible refine o_mod (by decide) ?_))
local macro_rules | `(tactic| walk_at "u") => `(tactic| first | (with_reducible refine w_seq ?_) | (with_reducible refine w_set ?_) | (with_reducible refine w_ret ?_) | (with_reducible refine w_drop ?_) | (with_reducible refine w_nx ?_) | (with_reducible refine w_bin ?_) | (with_reducible refine w_test ?_) | (with_reducible refine w_andT ?_) | (with_reducible refine w_orT ?_) | (with_reducible refine w_notT ?_) | (with_reducible refine w_and ?_) | (with_reducible refine w_nil ?_) | (with_reducible refine w_cons ?_) | (with_reducible refine w_op ?_) | (with_reducible refine w_call0 ?_) | (with_reducible refine w_sl ?_) | (with_reducible refine w_nop ?_) | (with_reducible refine w_p ?_) | (with_reducible refine w_yes ?_) | (with_reducible refine w_c ?_) | (with_reducible refine w_un ?_) | (with_reducible refine w_par ?_) | (with_reducible refine w_asg ?_) | (with_reducible refine o_add ?_) | (with_reducible refine o_sub ?_) | (with_reducible refine o_lt ?_) | (with_reducible refine o_le ?_) | (with_reducible refine o_gt ?_) | (with_reducible refine o_ge ?_) | (with_reducible refine o_eqs ?_) | (with_reducible refine o_eqi ?_) | (with_reducible refine o_eqb ?_) | (with_reducible refine o_nes ?_) | (with_reducible refine o_nei ?_) | (with_reducible refine o_isnn ?_) | (with_reducible refine o_isni ?_) | (with_reducible refine o_isns ?_) | (with_reducible refine o_min ?_) | (with_reducible refine o_int ?_) | (with_reducible refine o_neg ?_) | (with_reducible refine o_lenT ?_) | (with_reducible refine o_lenL ?_) | (with_reducible refine sq_nx ?_) | (with_reducible refine sq_rt ?_) | ((with_reducible apply w_var); focus exact rfl) | (with_reducible refine w_tup ?_) | (with_reducible refine w_lst ?_) | (with_reducible refine w_new ?_) | ((with_reducible refine sz_and ?_ ?_); focus (simp only [List.length_cons, List.length_nil, sL] <;> omega)) | (with_reducible refine w_meth ?_)  | (with_reducible refine w_dput ?_) | (with_reducible refine w_dget ?_) | (with_reducible refine w_dget2 ?_) | ((with_reducible apply ex_rfl); focus exact rfl) | (with_reducible refine o_mod (by decide) ?_))

/-! ### a list made of those that pass -/
theorem w_lcsel {α : Type} {src : Src} {t : Tg} {c : Gb} {f : G} {vs : List Nat} {ρ : Rho} {S : Sto} {Q : D → Sto → Prop} (enc : α → D) (p : α → Bool) (g : α → D) (xs : List α) (w : Option Nat)
    (hsrc : src ρ S = some (xs.map enc, w, S)) (hst : still (xs.map enc) w S = true)
    (hx : ∀ x ∈ xs, ∃ ρ1, t (enc x) (wipeR ρ vs) = some ρ1 ∧ W2 (c ρ1 S) (fun b S2 => b = p x ∧ S2 = S) ∧ (p x = true → W2 (f ρ1 S) fun d S2 => d = g x ∧ S2 = S))
    (k : Q (.lst ((xs.filter p).map g)) S) : W2 (cLc src t c f vs ρ S) Q := by
  have e0 := lcB_sel (t := t) (c := c) (f := f) (st := still (xs.map enc) w) (ρ := wipeR ρ vs) (S := S) enc p g hst xs (fun x h => ?_)
  · refine w2 (S := S) ?_ k
    unfold cLc
    rw [hsrc]
    dsimp only
    rw [e0]
  obtain ⟨ρ1, e1, ⟨b, S2, e2, rfl, rfl⟩, h3⟩ := hx x h
  refine ⟨ρ1, e1, e2, fun h => ?_⟩
  obtain ⟨d, S3, e3, rfl, rfl⟩ := h3 h
  exact e3
theorem sum_ints {S : Sto} (l : List Int) : sumO S [.lst (l.map .int)] = some (.int l.sum) := by
  have e : ∀ l : List Int, intsD (l.map .int) = some l := by
    intro l
    induction l with
    | nil => rfl
    | cons x r ih => simp only [List.map_cons, intsD, ih, Option.map]
  show (intsD (l.map .int)).map (fun ns => D.int ns.sum) = _
  rw [e]
  rfl
theorem w_src1 {f : G} {ρ : Rho} {S : Sto} {xs : List D} (h : W2 (f ρ S) fun d S1 => (d = .tup xs ∨ d = .lst xs) ∧ S1 = S) : sSeq f ρ S = some (xs, none, S) := by
  obtain ⟨d, S1, e, rfl | rfl, rfl⟩ := h
  · exact w_seqT ⟨_, _, e, rfl, rfl⟩
  · exact w_seqL ⟨_, _, e, rfl, rfl⟩
theorem slice_any {S : Sto} {d : D} {xs : List D} (lo hi : Option Int) (h : sqOf S d = some xs) : ∃ e, sliceO S d lo hi = some e ∧ (e = .tup (FS.cutD xs lo hi) ∨ e = .lst (FS.cutD xs lo hi)) := by
  rcases sq_cases h with rfl | h
  · exact ⟨_, rfl, .inl rfl⟩
  · cases d with
    | tup ys => cases h
    | lst ys => cases h; exact ⟨_, rfl, .inr rfl⟩
    | scr ys => cases h; exact ⟨_, rfl, .inr rfl⟩
    | ref n =>
      refine ⟨_, ?_, .inr rfl⟩
      show (lsOf S (.ref n)).map _ = _
      rw [h]
      rfl
    | _ => cases h
/-! ### sizes, rests -/
def sizeOf : Row → Int
  | .order _ _ _ z _ => z
  | _ => 0
def priceOf : Row → Int
  | .order _ _ p _ _ => p
  | _ => 0
def sideOf : Row → Str
  | .order _ s _ _ _ => s
  | _ => .empty
theorem size_at {r : Row} (S : Sto) (h : isOrd r = true) : ixO S r.d (.int 4) = some (.int (sizeOf r)) := by
  cases r <;> first | exact ix4 .. | cases h
theorem price_at {r : Row} (S : Sto) (h : isOrd r = true) : ixO S r.d (.int 3) = some (.int (priceOf r)) := by
  cases r <;> first | exact ix3 .. | cases h
theorem side_at {r : Row} (S : Sto) (h : isOrd r = true) : ixO S r.d (.int 2) = some (.str (sideOf r)) := by
  cases r <;> first | exact ix2 .. | cases h
def tot (l : List (Int × Int)) (n : Int) : Int := ((l.filter fun q => decide (q.1 = n)).map (·.2)).sum
theorem tot_nil (n : Int) : tot [] n = 0 := rfl
theorem tot_snoc (l : List (Int × Int)) (q : Int × Int) (n : Int) : tot (l ++ [q]) n = tot l n + (if q.1 = n then q.2 else 0) := by
  unfold tot
  rw [List.filter_append, List.map_append, List.sum_append]
  congr 1
  by_cases h : q.1 = n
  · rw [if_pos h, List.filter_cons_of_pos (by simpa using h)]; simp
  · rw [if_neg h, List.filter_cons_of_neg (by simpa using h)]; rfl
def rowAt (rows : List Row) (n : Nat) : Row := rows[n]?.getD .closed
theorem rowAt_get {rows : List Row} {n : Nat} (h : n < rows.length) : rows[n]? = some (rowAt rows n) := by
  unfold rowAt
  rw [List.getElem?_eq_getElem h]
  rfl
def restL (rows : List Row) (n t i : Nat) : Int := sizeOf (rowAt rows n) - tot (tradesL rows t i) n
theorem row_ix {rows : List Row} {rd : D} {S : Sto} {n : Nat} (hr : sqOf S rd = some (rows.map Row.d)) (h : n < rows.length) : ixO S rd (.int (n : Int)) = some (rowAt rows n).d := by
  rw [ixO_sq hr, List.getElem?_map, rowAt_get h]
  rfl
theorem run_rest {rows : List Row} {rd : D} {n t i : Nat} {S : Sto} (c : Clo S) (hs : Short rows) (hr : sqOf S rd = some (rows.map Row.d)) (hn : n < rows.length) (ho : isOrd (rowAt rows n) = true) :
    F__law_rest [rd, .int n, .int t, .int i] S = some (.int (restL rows n t i), S) := by
  refine settled_same ?_ c rfl
  have main : W2 (runFn 4 6 b__law_rest [rd, .int n, .int t, .int i] S) fun d S' => d = .int (restL rows n t i) ∧ S' = S := by
    refine w_run rfl ?_
    unfold b__law_rest
    repeat walk_at "v"
    refine w1 (row_ix hr hn) ?_
    repeat walk_at "v"
    refine w1 (size_at _ ho) ?_
    (with_reducible refine w_op ?_)
    (with_reducible refine w_cons ?_)
    refine w_lcsel pD (fun q => decide (q.1 = (n : Int))) (fun q => .int q.2) (tradesL rows t i) none (w_src1 ?_) rfl (fun q hq => ?_) ?_
    · repeat walk_at "v"
      exact w2 (run_trades c hs hr) ⟨.inr rfl, rfl⟩
    · refine ⟨_, rfl, ?_, fun _ => ?_⟩
      · repeat walk_at "v"
        exact ⟨rfl, rfl⟩
      · repeat walk_at "v"
        exact ⟨rfl, rfl⟩
    · repeat walk_at "v"
      have e := sum_ints (S := S) (((tradesL rows t i).filter fun q => decide (q.1 = (n : Int))).map (·.2))
      rw [List.map_map] at e
      refine w1 e ?_
      repeat walk_at "v"
      exact ⟨rfl, rfl⟩
  obtain ⟨d, S', e, rfl, rfl⟩ := main
  exact e
def ordersL (rows : List Row) : List Nat := (List.range rows.length).filter fun k => isOrd (rowAt rows k)
theorem run_orders {rows : List Row} {rd : D} {S : Sto} (c : Clo S) (hs : Short rows) (hr : sqOf S rd = some (rows.map Row.d)) :
    F__law_orders [rd] S = some (.lst ((ordersL rows).map fun (k : Nat) => .int k), S) := by
  refine settled_same ?_ c (closedL_of _ _ fun x _ => rfl)
  have main : W2 (runFn 1 2 b__law_orders [rd] S) fun d S' => d = .lst ((ordersL rows).map fun (k : Nat) => .int k) ∧ S' = S := by
    refine w_run rfl ?_
    unfold b__law_orders
    (with_reducible refine w_ret ?_)
    refine w_lcsel (fun (k : Nat) => .int k) (fun k => isOrd (rowAt rows k)) (fun (k : Nat) => .int k) (List.range rows.length) none ?_ rfl (fun k hk => ?_) ?_
    · rw [← ints0]
      refine w_src ?_ (by have := hs.1; omega)
      repeat walk_at "v"
      refine w1 (lenO_sq hr) ?_
      repeat walk_at "v"
      exact ⟨by rw [List.length_map], rfl⟩
    · have hk2 : k < rows.length := by simpa using hk
      refine ⟨_, rfl, ?_, fun _ => ?_⟩
      · repeat walk_at "v"
        refine w1 (row_ix hr hk2) ?_
        repeat walk_at "v"
        refine w1 (tag_at _ _) ?_
        repeat walk_at "v"
        exact ⟨tag_ord _, rfl⟩
      · repeat walk_at "v"
        exact ⟨rfl, rfl⟩
    · exact ⟨_, rfl, rfl, rfl⟩
  obtain ⟨d, S', e, rfl, rfl⟩ := main
  exact e
/-! ### open orders -/
def goneL (rows : List Row) (t : Nat) : List Int := (rows.take t).filterMap goneOf
def openP (rows : List Row) (t i k : Nat) : Bool := decide (k < t) && !(goneL rows t).contains (k : Int) && decide (tot (tradesL rows t i) k < sizeOf (rowAt rows k))
def openL (rows : List Row) (t i : Nat) : List Nat := (ordersL rows).filter (openP rows t i)
theorem gone_at {r : Row} (S : Sto) (h : (goneOf r).isSome = true) : ixO S r.d (.int 1) = some (.int ((goneOf r).getD 0)) := by
  cases r <;> first | exact ix1 .. | cases h
theorem gone_map (l : List Row) : ((l.filter fun r => (goneOf r).isSome).map fun r => D.int ((goneOf r).getD 0)) = (l.filterMap goneOf).map .int := by
  induction l with
  | nil => rfl
  | cons r l ih =>
    cases e : goneOf r with
    | none => rw [List.filter_cons_of_neg (by simp [e]), List.filterMap_cons_none e, ih]
    | some n => rw [List.filter_cons_of_pos (by simp [e]), List.filterMap_cons_some e, List.map_cons, List.map_cons, ih, e]; rfl
theorem valD_put (kvs : List (Key × D)) (k k' : Key) (v : D) : valD (putD kvs k v) k' = if k = k' then some v else valD kvs k' := by
  have find_map : ∀ l : List (Key × D), ((l.map fun kv => if kv.1 = k then (kv.1, v) else kv).find? fun kv => decide (kv.1 = k')) = if k = k' then (l.find? fun kv => decide (kv.1 = k)).map (fun kv => (kv.1, v)) else l.find? fun kv => decide (kv.1 = k') := by
    intro l
    induction l with
    | nil => split <;> rfl
    | cons x l ih =>
      rw [List.map_cons, List.find?_cons, List.find?_cons, List.find?_cons, ih]
      by_cases h1 : x.1 = k <;> by_cases h2 : k = k' <;> by_cases h3 : x.1 = k' <;> simp_all
  unfold putD valD
  split
  · rename_i h
    rw [find_map]
    split
    · obtain ⟨x, hx, he⟩ := List.any_eq_true.mp h
      cases e : kvs.find? (fun kv => decide (kv.1 = k)) with
      | some y => rfl
      | none => exact absurd he (by simpa using List.find?_eq_none.mp e x hx)
    · rfl
  · rename_i h
    have h1 : ∀ x ∈ kvs, ¬ x.1 = k := fun x hx e => h (List.any_eq_true.mpr ⟨x, hx, decide_eq_true e⟩)
    rw [List.find?_append]
    by_cases hk : k = k'
    · subst hk
      rw [if_pos rfl, List.find?_eq_none.mpr (fun x hx => by simpa using h1 x hx)]
      simp
    · rw [if_neg hk]
      cases e : kvs.find? (fun kv => decide (kv.1 = k')) with
      | some y => rfl
      | none => simp [hk]
theorem putD_len (kvs : List (Key × D)) (k : Key) (v : D) : (putD kvs k v).length ≤ kvs.length + 1 := by
  unfold putD
  split
  · rw [List.length_map]; omega
  · rw [List.length_append]; exact Nat.le_refl _
theorem inO_ints {S : Sto} {neg : Bool} (n : Int) (l : List Int) : inO neg S (.int n) (.lst (l.map .int)) = some (.bl (if neg then !l.contains n else l.contains n)) := by
  have e : ∀ l : List Int, flatDs (l.map .int) = some (l.map V.int) := by
    intro l
    induction l with
    | nil => rfl
    | cons x l ih => simp only [List.map_cons, flatDs, flatD, ih]
  have e2 : inV (.int n) (l.map V.int) = l.contains n := by
    induction l with
    | nil => rfl
    | cons x l ih =>
      unfold inV at ih ⊢
      rw [List.map_cons, List.any_cons, ih, List.contains_cons]
      congr 1
      rw [Bool.eq_iff_iff]
      simp [eqV]
      exact eq_comm
  show (match flatD (.int n), flatDs (l.map .int) with | some v, some vs => some (D.bl (if neg then !inV v vs else inV v vs)) | _, _ => none) = _
  rw [e]
  show some (D.bl (if neg then !inV (.int n) (l.map V.int) else inV (.int n) (l.map V.int))) = _
  rw [e2]
end Gn
set_option Elab.async false
set_option linter.all false
set_option maxRecDepth 100000
set_option maxHeartbeats 4000000
namespace Gn
open PySem PySem.Spec PyProof.Rows L2 FS
local macro_rules | `(tactic| walk_at "w") => `(tactic| first | (with_reducible refine w_seq ?_) | (with_reducible refine w_set ?_) | (with_reducible refine w_ret ?_) | (with_reducible refine w_drop ?_) | (with_reducible refine w_nx ?_) | (with_reducible refine w_bin ?_) | (with_reducible refine w_test ?_) | (with_reducible refine w_andT ?_) | (with_reducible refine w_orT ?_) | (with_reducible refine w_notT ?_) | (with_reducible refine w_and ?_) | (with_reducible refine w_nil ?_) | (with_reducible refine w_cons ?_) | (with_reducible refine w_op ?_) | (with_reducible refine w_call0 ?_) | (with_reducible refine w_sl ?_) | (with_reducible refine w_nop ?_) | (with_reducible refine w_p ?_) | (with_reducible refine w_yes ?_) | (with_reducible refine w_c ?_) | (with_reducible refine w_un ?_) | (with_reducible refine w_par ?_) | (with_reducible refine w_asg ?_) | (with_reducible refine w_ifs ?_) | (with_reducible refine w_if ?_) | (with_reducible refine o_add ?_) | (with_reducible refine o_sub ?_) | (with_reducible refine o_lt ?_) | (with_reducible refine o_le ?_) | (with_reducible refine o_gt ?_) | (with_reducible refine o_ge ?_) | (with_reducible refine o_eqs ?_) | (with_reducible refine o_eqi ?_) | (with_reducible refine o_eqb ?_) | (with_reducible refine o_nes ?_) | (with_reducible refine o_nei ?_) | (with_reducible refine o_isnn ?_) | (with_reducible refine o_isni ?_) | (with_reducible refine o_isns ?_) | (with_reducible refine o_min ?_) | (with_reducible refine o_int ?_) | (with_reducible refine o_neg ?_) | (with_reducible refine o_lenT ?_) | (with_reducible refine o_lenL ?_) | (with_reducible refine sq_nx ?_) | (with_reducible refine sq_rt ?_) | ((with_reducible apply w_var); focus exact rfl) | (with_reducible refine w_tup ?_) | (with_reducible refine w_lst ?_) | (with_reducible refine w_new ?_) | ((with_reducible refine sz_and ?_ ?_); focus (simp only [List.length_cons, List.length_nil, sL] <;> omega)) | (with_reducible refine w_meth ?_) | (with_reducible refine w_lc ?_) | (with_reducible refine w_dput ?_) | (with_reducible refine w_dget ?_) | (with_reducible refine w_dget2 ?_) | ((with_reducible apply ex_rfl); focus exact rfl) | (with_reducible refine o_mod (by decide) ?_))
local macro_rules | `(tactic| walk_at "v") => `(tactic| first | (with_reducible refine w_seq ?_) | (with_reducible refine w_set ?_) | (with_reducible refine w_ret ?_) | (with_reducible refine w_drop ?_) | (with_reducible refine w_nx ?_) | (with_reducible refine w_bin ?_) | (with_reducible refine w_test ?_) | (with_reducible refine w_andT ?_) | (with_reducible refine w_orT ?_) | (with_reducible refine w_notT ?_) | (with_reducible refine w_and ?_) | (with_reducible refine w_nil ?_) | (with_reducible refine w_cons ?_) | (with_reducible refine w_op ?_) | (with_reducible refine w_call0 ?_) | (with_reducible refine w_sl ?_) | (with_reducible refine w_nop ?_) | (with_reducible refine w_p ?_) | (with_reducible refine w_yes ?_) | (with_reducible refine w_c ?_) | (with_reducible refine w_un ?_) | (with_reducible refine w_par ?_) | (with_reducible refine w_asg ?_) | (with_reducible refine o_add ?_) | (with_reducible refine o_sub ?_) | (with_reducible refine o_lt ?_) | (with_reducible refine o_le ?_) | (with_reducible refine o_gt ?_) | (with_reducible refine o_ge ?_) | (with_reducible refine o_eqs ?_) | (with_reducible refine o_eqi ?_) | (with_reducible refine o_eqb ?_) | (with_reducible refine o_nes ?_) | (with_reducible refine o_nei ?_) | (with_reducible refine o_isnn ?_) | (with_reducible refine o_isni ?_) | (with_reducible refine o_isns ?_) | (with_reducible refine o_min ?_) | (with_reducible refine o_int ?_) | (with_reducible refine o_neg ?_) | (with_reducible refine o_lenT ?_) | (with_reducible refine o_lenL ?_) | (with_reducible refine sq_nx ?_) | (with_reducible refine sq_rt ?_) | ((with_reducible apply w_var); focus exact rfl) | (with_reducible refine w_tup ?_) | (with_reducible refine w_lst ?_) | (with_reducible refine w_new ?_) | ((with_reducible refine sz_and ?_ ?_); focus (simp only [List.length_cons, List.length_nil, sL] <;> omega)) | (with_reducible refine w_meth ?_) | (with_reducible refine w_lc ?_) | (with_reducible refine w_dput ?_) | (with_reducible refine w_dget ?_) | (with_reducible refine w_dget2 ?_) | ((with_reducible apply ex_rfl); focus exact rfl) | (with_reducible refine o_mod (by decide) ?_))
local macro_rules | `(tactic| walk_at "u") => `(tactic| first | (with_reducible refine w_seq ?_) | (with_reducible refine w_set ?_) | (with_reducible refine w_ret ?_) | (with_reducible refine w_drop ?_) | (with_reducible refine w_nx ?_) | (with_reducible refine w_bin ?_) | (with_reducible refine w_test ?_) | (with_reducible refine w_andT ?_) | (with_reducible refine w_orT ?_) | (with_reducible refine w_notT ?_) | (with_reducible refine w_and ?_) | (with_reducible refine w_nil ?_) | (with_reducible refine w_cons ?_) | (with_reducible refine w_op ?_) | (with_reducible refine w_call0 ?_) | (with_reducible refine w_sl ?_) | (with_reducible refine w_nop ?_) | (with_reducible refine w_p ?_) | (with_reducible refine w_yes ?_) | (with_reducible refine w_c ?_) | (with_reducible refine w_un ?_) | (with_reducible refine w_par ?_) | (with_reducible refine w_asg ?_) | (with_reducible refine o_add ?_) | (with_reducible refine o_sub ?_) | (with_reducible refine o_lt ?_) | (with_reducible refine o_le ?_) | (with_reducible refine o_gt ?_) | (with_reducible refine o_ge ?_) | (with_reducible refine o_eqs ?_) | (with_reducible refine o_eqi ?_) | (with_reducible refine o_eqb ?_) | (with_reducible refine o_nes ?_) | (with_reducible refine o_nei ?_) | (with_reducible refine o_isnn ?_) | (with_reducible refine o_isni ?_) | (with_reducible refine o_isns ?_) | (with_reducible refine o_min ?_) | (with_reducible refine o_int ?_) | (with_reducible refine o_neg ?_) | (with_reducible refine o_lenT ?_) | (with_reducible refine o_lenL ?_) | (with_reducible refine sq_nx ?_) | (with_reducible refine sq_rt ?_) | ((with_reducible apply w_var); focus exact rfl) | (with_reducible refine w_tup ?_) | (with_reducible refine w_lst ?_) | (with_reducible refine w_new ?_) | ((with_reducible refine sz_and ?_ ?_); focus (simp only [List.length_cons, List.length_nil, sL] <;> omega)) | (with_reducible refine w_meth ?_)  | (with_reducible refine w_dput ?_) | (with_reducible refine w_dget ?_) | (with_reducible refine w_dget2 ?_) | ((with_reducible apply ex_rfl); focus exact rfl) | (with_reducible refine o_mod (by decide) ?_))

structure Sums (kvs : List (Key × D)) (l : List (Int × Int)) : Prop where
  get : ∀ m : Int, (valD kvs (.inl m)).getD (.int 0) = .int (tot l m)
  len : kvs.length ≤ l.length
  alln : ∀ x ∈ kvs, ∃ i, x.2 = .int i
theorem Sums.nil : Sums [] [] := ⟨fun _ => rfl, Nat.le_refl _, fun _ h => by cases h⟩
theorem Sums.snoc {kvs : List (Key × D)} {l : List (Int × Int)} (h : Sums kvs l) (q : Int × Int) : Sums (putD kvs (.inl q.1) (.int (tot l q.1 + q.2))) (l ++ [q]) := by
  refine ⟨fun m => ?_, ?_, fun x hx => ?_⟩
  · rw [valD_put, tot_snoc]
    by_cases e : q.1 = m
    · subst e
      rw [if_pos rfl, if_pos rfl]
      rfl
    · rw [if_neg (fun h => e (Sum.inl.inj h)), if_neg e, h.get, Int.add_zero]
  · have := putD_len kvs (.inl q.1) (.int (tot l q.1 + q.2))
    have := h.len
    rw [List.length_append, List.length_singleton]
    omega
  · unfold putD at hx
    split at hx
    · obtain ⟨y, hy, e⟩ := List.mem_map.mp hx
      split at e
      · subst e; exact ⟨_, rfl⟩
      · subst e; exact h.alln _ hy
    · rcases List.mem_append.mp hx with hx | hx
      · exact h.alln _ hx
      · rw [List.mem_singleton] at hx
        subst hx
        exact ⟨_, rfl⟩
theorem Sums.closed {kvs : List (Key × D)} {l : List (Int × Int)} (h : Sums kvs l) (n : Nat) : closedM n (.dct kvs) = true := by
  show closedL n (kvs.map (·.2)) = true
  rw [closedL_iff]
  intro d hd
  obtain ⟨x, hx, rfl⟩ := List.mem_map.mp hd
  obtain ⟨i, e⟩ := h.alln x hx
  rw [e]
  rfl
theorem tradesL_len {rows : List Row} (h : Short rows) (t i : Nat) : (tradesL rows t i).length ≤ 3000000 := by
  have := tradesTo_len h t i (min (t + 1) rows.length)
  have h2 := h.1
  unfold tradesL
  omega
theorem filter_two {α : Type} (p q : α → Bool) (l : List α) : (l.filter p).filter q = l.filter fun x => p x && q x := by
  rw [List.filter_filter]
  congr 1
  funext x
  rw [Bool.and_comm]
theorem run_open {rows : List Row} {rd : D} {t i : Nat} {S : Sto} (c : Clo S) (hs : Short rows) (hr : sqOf S rd = some (rows.map Row.d)) :
    F__law_open [rd, .int t, .int i] S = some (.lst ((openL rows t i).map fun (k : Nat) => .int k), S) := by
  have main : W2 (runFn 3 9 b__law_open [rd, .int t, .int i] S) fun d S' => ∃ kvs, d = .lst ((openL rows t i).map fun (k : Nat) => .int k) ∧ S' = S ++ [.dct kvs] := by
    refine w_run rfl ?_
    unfold b__law_open
    (with_reducible refine w_seq ?_)
    (with_reducible refine w_set ?_)
    refine w_lcsel Row.d (fun r => (goneOf r).isSome) (fun r => .int ((goneOf r).getD 0)) (rows.take t) none (w_src1 ?_) rfl (fun r hr => ?_) ?_
    · repeat walk_at "v"
      obtain ⟨e, e1, e2⟩ := slice_any none (some (t : Int)) hr
      refine w1 e1 ?_
      rw [cut_to, ← List.map_take] at e2
      exact ⟨e2, rfl⟩
    · refine ⟨_, rfl, ?_, fun h => ?_⟩
      · repeat walk_at "v"
        refine w1 (tag_at _ _) ?_
        repeat walk_at "v"
        exact ⟨tag_cancel _, rfl⟩
      · repeat walk_at "v"
        exact w1 (gone_at _ h) ⟨rfl, rfl⟩
    rw [gone_map]
    (with_reducible refine sq_nx ?_)
    (with_reducible refine w_seq ?_)
    (with_reducible refine w_set ?_)
    (with_reducible refine w_dnew ?_)
    (with_reducible refine sq_nx ?_)
    (with_reducible refine w_seq ?_)
    have hr1 : ∀ u, sqOf (S ++ [u]) rd = some (rows.map Row.d) := fun u => sqOf_app hr
    refine w_fors (S1 := S ++ [.dct []]) pD (tradesL rows t i) none (fun pre ρ S1 => (∃ x5 x6, ρ = [some rd, some (.int t), some (.int i), some (.lst ((goneL rows t).map .int)), some (.ref S.length), x5, x6, none, none]) ∧ ∃ kvs, S1 = S ++ [.dct kvs] ∧ Sums kvs pre) ?_ ⟨⟨_, _, rfl⟩, _, rfl, .nil⟩ ?_ ?_
    · refine w_src1 ?_
      repeat walk_at "v"
      exact w2 (run_trades (c.app (Sums.closed .nil _)) hs (hr1 _)) ⟨.inr rfl, rfl⟩
    · rintro pre q post e ρ S1 ⟨⟨x5, x6, rfl⟩, kvs, rfl, hk⟩
      refine ⟨_, rfl, ?_⟩
      repeat walk_at "v"
      refine ⟨_, kvs, rfl, ap_at _, ?_⟩
      repeat walk_at "v"
      refine ⟨kvs, .inl q.1, ap_at _, rfl, ?_⟩
      rw [hk.get]
      repeat walk_at "v"
      have hl : kvs.length < sizeLine := by
        have h1 := hk.len
        have h2 := tradesL_len hs t i
        have h3 := congrArg List.length e
        rw [List.length_append, List.length_cons] at h3
        rw [sL]
        omega
      refine ⟨kvs, .inl q.1, ap_at _, rfl, hl, .inl rfl, rfl, ⟨_, _, rfl⟩, _, ap_set _ _, hk.snoc q⟩
    rintro ρ' S' ⟨⟨x5, x6, rfl⟩, kvs, rfl, hk⟩
    have cS := c.app (u := .dct kvs) (hk.closed _)
    (with_reducible refine sq_nx ?_)
    (with_reducible refine w_seq ?_)
    (with_reducible refine w_set ?_)
    refine w_lcsel (fun (k : Nat) => .int k) (fun k => decide (k < t) && !(goneL rows t).contains (k : Int)) (fun (k : Nat) => .int k) (ordersL rows) none (w_src1 ?_) rfl (fun k hk => ?_) ?_
    · repeat walk_at "v"
      exact w2 (run_orders cS hs (hr1 _)) ⟨.inr rfl, rfl⟩
    · refine ⟨_, rfl, ?_, fun h => ?_⟩
      · repeat walk_at "v"
        refine ⟨fun h => ?_, fun h => ?_⟩
        · repeat walk_at "v"
          refine w1 (inO_ints _ _) ?_
          repeat walk_at "v"
          have h2 : k < t := by have := of_decide_eq_true h; omega
          refine ⟨?_, rfl⟩
          rw [decide_eq_true h2, Bool.true_and]
          rfl
        · have h2 : ¬ k < t := by have := of_decide_eq_false h; omega
          refine ⟨?_, rfl⟩
          rw [decide_eq_false h2, Bool.false_and]
      · repeat walk_at "v"
        exact ⟨rfl, rfl⟩
    (with_reducible refine sq_nx ?_)
    (with_reducible refine w_ret ?_)
    refine w_lcsel (fun (k : Nat) => .int k) (fun k => decide (tot (tradesL rows t i) k < sizeOf (rowAt rows k))) (fun (k : Nat) => .int k) ((ordersL rows).filter fun k => decide (k < t) && !(goneL rows t).contains (k : Int)) none (w_src1 ?_) rfl (fun k hk2 => ?_) ?_
    · repeat walk_at "v"
      exact ⟨.inr rfl, rfl⟩
    · have hk3 := (List.mem_filter.mp (List.mem_filter.mp hk2).1)
      have hk4 : k < rows.length := by simpa using hk3.1
      refine ⟨_, rfl, ?_, fun h => ?_⟩
      · repeat walk_at "v"
        refine w1 (row_ix (hr1 _) hk4) ?_
        repeat walk_at "v"
        refine w1 (size_at _ hk3.2) ?_
        repeat walk_at "v"
        refine ⟨_, kvs, rfl, ap_at _, ?_⟩
        repeat walk_at "v"
        refine ⟨kvs, .inl k, ap_at _, rfl, ?_⟩
        rw [hk.get]
        repeat walk_at "v"
        exact ⟨rfl, rfl⟩
      · repeat walk_at "v"
        exact ⟨rfl, rfl⟩
    refine ⟨_, rfl, kvs, ?_, rfl⟩
    rw [filter_two]
    rfl
  obtain ⟨d, S', e, kvs, rfl, rfl⟩ := main
  exact settled_app e c (closedL_of _ _ fun x _ => rfl)
end Gn
set_option Elab.async false
set_option linter.all false
set_option maxRecDepth 100000
set_option maxHeartbeats 4000000
namespace Gn
open PySem PySem.Spec PyProof.Rows L2 FS
local macro_rules | `(tactic| walk_at "w") => `(tactic| first | (with_reducible refine w_seq ?_) | (with_reducible refine w_set ?_) | (with_reducible refine w_ret ?_) | (with_reducible refine w_drop ?_) | (with_reducible refine w_nx ?_) | (with_reducible refine w_bin ?_) | (with_reducible refine w_test ?_) | (with_reducible refine w_andT ?_) | (with_reducible refine w_orT ?_) | (with_reducible refine w_notT ?_) | (with_reducible refine w_and ?_) | (with_reducible refine w_nil ?_) | (with_reducible refine w_cons ?_) | (with_reducible refine w_op ?_) | (with_reducible refine w_call0 ?_) | (with_reducible refine w_sl ?_) | (with_reducible refine w_nop ?_) | (with_reducible refine w_p ?_) | (with_reducible refine w_yes ?_) | (with_reducible refine w_c ?_) | (with_reducible refine w_un ?_) | (with_reducible refine w_par ?_) | (with_reducible refine w_asg ?_) | (with_reducible refine w_ifs ?_) | (with_reducible refine w_if ?_) | (with_reducible refine o_add ?_) | (with_reducible refine o_sub ?_) | (with_reducible refine o_lt ?_) | (with_reducible refine o_le ?_) | (with_reducible refine o_gt ?_) | (with_reducible refine o_ge ?_) | (with_reducible refine o_eqs ?_) | (with_reducible refine o_eqi ?_) | (with_reducible refine o_eqb ?_) | (with_reducible refine o_nes ?_) | (with_reducible refine o_nei ?_) | (with_reducible refine o_isnn ?_) | (with_reducible refine o_isni ?_) | (with_reducible refine o_isns ?_) | (with_reducible refine o_min ?_) | (with_reducible refine o_int ?_) | (with_reducible refine o_neg ?_) | (with_reducible refine o_lenT ?_) | (with_reducible refine o_lenL ?_) | (with_reducible refine sq_nx ?_) | (with_reducible refine sq_rt ?_) | ((with_reducible apply w_var); focus exact rfl) | (with_reducible refine w_tup ?_) | (with_reducible refine w_lst ?_) | (with_reducible refine w_new ?_) | ((with_reducible refine sz_and ?_ ?_); focus (simp only [List.length_cons, List.length_nil, sL] <;> omega)) | (with_reducible refine w_meth ?_) | (with_reducible refine w_lc ?_) | (with_reducible refine w_dput ?_) | (with_reducible refine w_dget ?_) | (with_reducible refine w_dget2 ?_) | ((with_reducible apply ex_rfl); focus exact rfl) | (with_reducible refine o_mod (by decide) ?_))
local macro_rules | `(tactic| walk_at "v") => `(tactic| first | (with_reducible refine w_seq ?_) | (with_reducible refine w_set ?_) | (with_reducible refine w_ret ?_) | (with_reducible refine w_drop ?_) | (with_reducible refine w_nx ?_) | (with_reducible refine w_bin ?_) | (with_reducible refine w_test ?_) | (with_reducible refine w_andT ?_) | (with_reducible refine w_orT ?_) | (with_reducible refine w_notT ?_) | (with_reducible refine w_and ?_) | (with_reducible refine w_nil ?_) | (with_reducible refine w_cons ?_) | (with_reducible refine w_op ?_) | (with_reducible refine w_call0 ?_) | (with_reducible refine w_sl ?_) | (with_reducible refine w_nop ?_) | (with_reducible refine w_p ?_) | (with_reducible refine w_yes ?_) | (with_reducible refine w_c ?_) | (with_reducible refine w_un ?_) | (with_reducible refine w_par ?_) | (with_reducible refine w_asg ?_) | (with_reducible refine o_add ?_) | (with_reducible refine o_sub ?_) | (with_reducible refine o_lt ?_) | (with_reducible refine o_le ?_) | (with_reducible refine o_gt ?_) | (with_reducible refine o_ge ?_) | (with_reducible refine o_eqs ?_) | (with_reducible refine o_eqi ?_) | (with_reducible refine o_eqb ?_) | (with_reducible refine o_nes ?_) | (with_reducible refine o_nei ?_) | (with_reducible refine o_isnn ?_) | (with_reducible refine o_isni ?_) | (with_reducible refine o_isns ?_) | (with_reducible refine o_min ?_) | (with_reducible refine o_int ?_) | (with_reducible refine o_neg ?_) | (with_reducible refine o_lenT ?_) | (with_reducible refine o_lenL ?_) | (with_reducible refine sq_nx ?_) | (with_reducible refine sq_rt ?_) | ((with_reducible apply w_var); focus exact rfl) | (with_reducible refine w_tup ?_) | (with_reducible refine w_lst ?_) | (with_reducible refine w_new ?_) | ((with_reducible refine sz_and ?_ ?_); focus (simp only [List.length_cons, List.length_nil, sL] <;> omega)) | (with_reducible refine w_meth ?_) | (with_reducible refine w_lc ?_) | (with_reducible refine w_dput ?_) | (with_reducible refine w_dget ?_) | (with_reducible refine w_dget2 ?_) | ((with_reducible apply ex_rfl); focus exact rfl) | (with_reducible refine o_mod (by decide) ?_))
local macro_rules | `(tactic| walk_at "u") => `(tactic| first | (with_reducible refine w_seq ?_) | (with_reducible refine w_set ?_) | (with_reducible refine w_ret ?_) | (with_reducible refine w_drop ?_) | (with_reducible refine w_nx ?_) | (with_reducible refine w_bin ?_) | (with_reducible refine w_test ?_) | (with_reducible refine w_andT ?_) | (with_reducible refine w_orT ?_) | (with_reducible refine w_notT ?_) | (with_reducible refine w_and ?_) | (with_reducible refine w_nil ?_) | (with_reducible refine w_cons ?_) | (with_reducible refine w_op ?_) | (with_reducible refine w_call0 ?_) | (with_reducible refine w_sl ?_) | (with_reducible refine w_nop ?_) | (with_reducible refine w_p ?_) | (with_reducible refine w_yes ?_) | (with_reducible refine w_c ?_) | (with_reducible refine w_un ?_) | (with_reducible refine w_par ?_) | (with_reducible refine w_asg ?_) | (with_reducible refine o_add ?_) | (with_reducible refine o_sub ?_) | (with_reducible refine o_lt ?_) | (with_reducible refine o_le ?_) | (with_reducible refine o_gt ?_) | (with_reducible refine o_ge ?_) | (with_reducible refine o_eqs ?_) | (with_reducible refine o_eqi ?_) | (with_reducible refine o_eqb ?_) | (with_reducible refine o_nes ?_) | (with_reducible refine o_nei ?_) | (with_reducible refine o_isnn ?_) | (with_reducible refine o_isni ?_) | (with_reducible refine o_isns ?_) | (with_reducible refine o_min ?_) | (with_reducible refine o_int ?_) | (with_reducible refine o_neg ?_) | (with_reducible refine o_lenT ?_) | (with_reducible refine o_lenL ?_) | (with_reducible refine sq_nx ?_) | (with_reducible refine sq_rt ?_) | ((with_reducible apply w_var); focus exact rfl) | (with_reducible refine w_tup ?_) | (with_reducible refine w_lst ?_) | (with_reducible refine w_new ?_) | ((with_reducible refine sz_and ?_ ?_); focus (simp only [List.length_cons, List.length_nil, sL] <;> omega)) | (with_reducible refine w_meth ?_)  | (with_reducible refine w_dput ?_) | (with_reducible refine w_dget ?_) | (with_reducible refine w_dget2 ?_) | ((with_reducible apply ex_rfl); focus exact rfl) | (with_reducible refine o_mod (by decide) ?_))

/-! ### small values -/
def Sm (i : Int) : Prop := i.natAbs.log2 < 200
theorem Sm.wide {i : Int} (h : Sm i) : i.natAbs.log2 < 1920 := Nat.lt_trans h (by decide)
theorem sm_bd {i : Int} (h1 : -1000000 ≤ i) (h2 : i ≤ 1000000) : Sm i := by
  unfold Sm
  by_cases h : i.natAbs = 0
  · rw [h]; decide
  · refine (Nat.log2_lt h).mpr (Nat.lt_of_lt_of_le (show i.natAbs < 2 ^ 20 by omega) (Nat.pow_le_pow_right (by decide) (by decide)))
def Wd (m : Str) : Prop := Asc m ∧ m.length ≤ 20
structure FOk (f : Fill) : Prop where
  p : Sm f.p
  z : Sm f.z
  n : ∀ i, f.n = some i → Sm i
inductive ROk : Row → Prop
  | order {m s p z fs} (h1 : Wd m) (h2 : Wd s) (h3 : Sm p) (h4 : Sm z) (h5 : ∀ f ∈ fs, FOk f) (h6 : fs.length ≤ 8) : ROk (.order m s p z fs)
  | prints {fs} (h5 : ∀ f ∈ fs, FOk f) (h6 : fs.length ≤ 8) : ROk (.prints fs)
  | call {p ps} (h1 : ∀ i, p = some i → Sm i) (h5 : ∀ q ∈ ps, Sm q.1 ∧ Sm q.2) (h6 : ps.length ≤ 40) : ROk (.call p ps)
  | cancel {n} (h : Sm n) : ROk (.cancel n)
  | closed : ROk .closed
theorem nice_oD {o : Option Int} (h : ∀ i, o = some i → Sm i) : Nice (oD o) 0 1921 := by
  cases o with
  | none => exact Nice.non.mono (Nat.le_refl _) (by decide)
  | some i => exact .int (h i rfl).wide
theorem nice_fill {f : Fill} (h : FOk f) : Nice f.d 1 5772 := Nice.tup (((NiceL.nil.mono (Nat.le_refl _) (Nat.le_refl _)).cons (nice_oD h.n)).cons (.int h.z.wide) |>.cons (.int h.p.wide))
theorem nice_fills {fs : List Fill} (h : ∀ f ∈ fs, FOk f) (hl : fs.length ≤ 8) : Nice (.tup (fs.map Fill.d)) 2 46195 := by
  refine (Nice.tup (k := 1) (w := 5774 * 8) ((NiceL.all (k := 1) (w := 5772) fun d hd => ?_).mono (Nat.le_refl _) ?_)).mono (Nat.le_refl _) (Nat.le_refl _)
  · obtain ⟨f, hf, rfl⟩ := List.mem_map.mp hd
    exact nice_fill (h f hf)
  · rw [List.length_map]
    exact Nat.mul_le_mul_left _ hl
theorem nice_pairs {ps : List (Int × Int)} (h : ∀ q ∈ ps, Sm q.1 ∧ Sm q.2) (hl : ps.length ≤ 40) : Nice (.tup (ps.map pD)) 2 154043 := by
  refine (Nice.tup (k := 1) (w := 3851 * 40) ((NiceL.all (k := 1) (w := 3849) fun d hd => ?_).mono (Nat.le_refl _) ?_)).mono (Nat.le_refl _) (Nat.le_refl _)
  · obtain ⟨q, hq, rfl⟩ := List.mem_map.mp hd
    exact Nice.tup ((NiceL.nil.cons (.int (h q hq).2.wide)).cons (.int (h q hq).1.wide))
  · rw [List.length_map]
    exact Nat.mul_le_mul_left _ hl
theorem asc_lit {x : Str} (h : (x.cps.toList.all fun c => decide (c < 128)) = true) : Asc x := fun c hc => of_decide_eq_true (List.all_eq_true.mp h c hc)
theorem nice_tag (x : Str) (h : (x.cps.toList.all fun c => decide (c < 128)) = true) (hl : x.length ≤ 20) : Nice (.str x) 2 202 := (Nice.str (asc_lit h) hl).mono (Nat.zero_le _) (Nat.le_refl _)
theorem nup {d : D} {w : Nat} (h : Nice d 0 w) : Nice d 2 w := h.mono (by decide) (Nat.le_refl _)
theorem nice_row {r : Row} (h : ROk r) : Nice r.d 3 160000 := by
  cases h with
  | order h1 h2 h3 h4 h5 h6 => exact (Nice.tup ((((((NiceL.nil.mono (Nat.zero_le 2) (Nat.le_refl _)).cons (nice_fills h5 h6)).cons (nup (Nice.int h4.wide))).cons (nup (Nice.int h3.wide))).cons (nup (Nice.str h2.1 h2.2))).cons (nup (Nice.str h1.1 h1.2)) |>.cons (nice_tag "order" (by decide +kernel) (by decide +kernel)))).mono (Nat.le_refl _) (by decide)
  | prints h5 h6 => exact (Nice.tup (((NiceL.nil.mono (Nat.zero_le 2) (Nat.le_refl _)).cons (nice_fills h5 h6)).cons (nice_tag "prints" (by decide +kernel) (by decide +kernel)))).mono (Nat.le_refl _) (by decide)
  | call h1 h5 h6 => exact (Nice.tup ((((NiceL.nil.mono (Nat.zero_le 2) (Nat.le_refl _)).cons (nice_pairs h5 h6)).cons (nup (nice_oD h1))).cons (nice_tag "call" (by decide +kernel) (by decide +kernel)))).mono (Nat.le_refl _) (by decide)
  | cancel h => exact (Nice.tup (((NiceL.nil.mono (Nat.zero_le 2) (Nat.le_refl _)).cons (nup (Nice.int h.wide))).cons (nice_tag "cancel" (by decide +kernel) (by decide +kernel)))).mono (Nat.le_refl _) (by decide)
  | closed => exact (Nice.tup ((NiceL.nil.mono (Nat.zero_le 2) (Nat.le_refl _)).cons (nice_tag "closed" (by decide +kernel) (by decide +kernel)))).mono (Nat.le_refl _) (by decide)
/-! ### equal as data -/
theorem eqO_nil {S : Sto} {xs : List D} {k w : Nat} (neg : Bool) (h : NiceL xs k w) (hk : k ≤ 63) : eqO neg S (.lst xs) (.lst []) = some (.bl (if neg then !xs.isEmpty else xs.isEmpty)) := by
  have n1 := Nice.lst h
  have n2 : Nice (.lst []) 1 3 := Nice.lst NiceL.nil
  obtain ⟨ps, a, b, c, d, e⟩ := h
  have e1 : pyD (FS.seen S (.lst xs)) = some (.list ps) := by simp only [FS.seen, pyD, a, Option.map]
  have e2 : pyD (FS.seen S (.lst [])) = some (.list []) := by simp only [FS.seen, pyD, pyDs, Option.map]
  have s1 := shaped_nice n1 (by omega) (by simpa only [FS.seen] using e1)
  have s2 := shaped_nice n2 (by omega) (by simpa only [FS.seen] using e2)
  show (match pyD (FS.seen S (.lst xs)), pyD (FS.seen S (.lst [])) with | some p, some q => _ | _, _ => none) = _
  rw [e1, e2]
  dsimp only
  rw [if_pos ⟨s1, s2⟩]
  have : PyData.eqv (.list ps) (.list []) = xs.isEmpty := by
    simp only [PyData.eqv]
    cases xs with
    | nil => simp only [pyDs] at a; cases a; rfl
    | cons x xs =>
      simp only [pyDs] at a
      split at a
      · cases a; rfl
      · cases a
  rw [this]
def isClosed : Row → Bool
  | .closed => true
  | _ => false
theorem closed_eq {S : Sto} {r : Row} (h : ROk r) : eqO false S r.d (.tup [.str "closed"]) = some (.bl (isClosed r)) := by
  have n1 := nice_row h
  have n2 : Nice (.tup [.str "closed"]) 3 160000 := nice_row ROk.closed
  obtain ⟨p, e1, _⟩ := id n1
  have e2 : pyD (.tup [.str "closed"]) = some (.tuple [.str "closed"]) := by simp only [pyD, pyDs, Option.map]
  have s1 := shaped_nice n1 (by omega) e1
  have s2 := shaped_nice n2 (by omega) e2
  have key : eqO false S r.d (.tup [.str "closed"]) = (match pyD (FS.seen S r.d), pyD (FS.seen S (.tup [.str "closed"])) with | some p, some q => if SeqAt.shaped p = true ∧ SeqAt.shaped q = true then some (.bl (PyData.eqv p q)) else none | _, _ => none) := by
    cases r <;> rfl
  rw [key, seen_nice n1, seen_nice n2, e1, e2]
  dsimp only
  rw [if_pos ⟨s1, s2⟩]
  have t1 : ((Str.ofString "order") == (Str.ofString "closed")) = false := by decide +kernel
  have t2 : ((Str.ofString "prints") == (Str.ofString "closed")) = false := by decide +kernel
  have t3 : ((Str.ofString "call") == (Str.ofString "closed")) = false := by decide +kernel
  have t4 : ((Str.ofString "cancel") == (Str.ofString "closed")) = false := by decide +kernel
  have t5 : ((Str.ofString "closed") == (Str.ofString "closed")) = true := by decide +kernel
  have head : ∀ (x : Str) (ds : List D), pyD (.tup (.str x :: ds)) = some p → ∃ ps, p = .tuple (.str x :: ps) ∧ pyDs ds = some ps := by
    intro x ds e
    simp only [pyD, pyDs, Option.map_eq_some_iff] at e
    obtain ⟨l, e3, e4⟩ := e
    split at e3
    · rename_i y ys h1 h2
      cases h1
      cases e3
      exact ⟨_, e4.symm, h2⟩
    · cases e3
  cases r <;> (obtain ⟨ps, rfl, e3⟩ := head _ _ e1; simp only [PyData.eqv, PyData.eqvAll, t1, t2, t3, t4, t5, Bool.false_and, Bool.true_and, isClosed])
  simp only [pyDs] at e3
  cases e3
  rfl
end Gn
set_option Elab.async false
set_option linter.all false
set_option maxRecDepth 100000
set_option maxHeartbeats 4000000
namespace Gn
open PySem PySem.Spec PyProof.Rows L2 FS
local macro_rules | `(tactic| walk_at "w") => `(tactic| first | (with_reducible refine w_seq ?_) | (with_reducible refine w_set ?_) | (with_reducible refine w_ret ?_) | (with_reducible refine w_drop ?_) | (with_reducible refine w_nx ?_) | (with_reducible refine w_bin ?_) | (with_reducible refine w_test ?_) | (with_reducible refine w_andT ?_) | (with_reducible refine w_orT ?_) | (with_reducible refine w_notT ?_) | (with_reducible refine w_and ?_) | (with_reducible refine w_nil ?_) | (with_reducible refine w_cons ?_) | (with_reducible refine w_op ?_) | (with_reducible refine w_call0 ?_) | (with_reducible refine w_sl ?_) | (with_reducible refine w_nop ?_) | (with_reducible refine w_p ?_) | (with_reducible refine w_yes ?_) | (with_reducible refine w_c ?_) | (with_reducible refine w_un ?_) | (with_reducible refine w_par ?_) | (with_reducible refine w_asg ?_) | (with_reducible refine w_ifs ?_) | (with_reducible refine w_if ?_) | (with_reducible refine o_add ?_) | (with_reducible refine o_sub ?_) | (with_reducible refine o_lt ?_) | (with_reducible refine o_le ?_) | (with_reducible refine o_gt ?_) | (with_reducible refine o_ge ?_) | (with_reducible refine o_eqs ?_) | (with_reducible refine o_eqi ?_) | (with_reducible refine o_eqb ?_) | (with_reducible refine o_nes ?_) | (with_reducible refine o_nei ?_) | (with_reducible refine o_isnn ?_) | (with_reducible refine o_isni ?_) | (with_reducible refine o_isns ?_) | (with_reducible refine o_min ?_) | (with_reducible refine o_int ?_) | (with_reducible refine o_neg ?_) | (with_reducible refine o_lenT ?_) | (with_reducible refine o_lenL ?_) | (with_reducible refine sq_nx ?_) | (with_reducible refine sq_rt ?_) | ((with_reducible apply w_var); focus exact rfl) | (with_reducible refine w_tup ?_) | (with_reducible refine w_lst ?_) | (with_reducible refine w_new ?_) | ((with_reducible refine sz_and ?_ ?_); focus (simp only [List.length_cons, List.length_nil, sL] <;> omega)) | (with_reducible refine w_meth ?_) | (with_reducible refine w_lc ?_) | (with_reducible refine w_dput ?_) | (with_reducible refine w_dget ?_) | (with_reducible refine w_dget2 ?_) | ((with_reducible apply ex_rfl); focus exact rfl) | (with_reducible refine o_mod (by decide) ?_))
local macro_rules | `(tactic| walk_at "v") => `(tactic| first | (with_reducible refine w_seq ?_) | (with_reducible refine w_set ?_) | (with_reducible refine w_ret ?_) | (with_reducible refine w_drop ?_) | (with_reducible refine w_nx ?_) | (with_reducible refine w_bin ?_) | (with_reducible refine w_test ?_) | (with_reducible refine w_andT ?_) | (with_reducible refine w_orT ?_) | (with_reducible refine w_notT ?_) | (with_reducible refine w_and ?_) | (with_reducible refine w_nil ?_) | (with_reducible refine w_cons ?_) | (with_reducible refine w_op ?_) | (with_reducible refine w_call0 ?_) | (with_reducible refine w_sl ?_) | (with_reducible refine w_nop ?_) | (with_reducible refine w_p ?_) | (with_reducible refine w_yes ?_) | (with_reducible refine w_c ?_) | (with_reducible refine w_un ?_) | (with_reducible refine w_par ?_) | (with_reducible refine w_asg ?_) | (with_reducible refine o_add ?_) | (with_reducible refine o_sub ?_) | (with_reducible refine o_lt ?_) | (with_reducible refine o_le ?_) | (with_reducible refine o_gt ?_) | (with_reducible refine o_ge ?_) | (with_reducible refine o_eqs ?_) | (with_reducible refine o_eqi ?_) | (with_reducible refine o_eqb ?_) | (with_reducible refine o_nes ?_) | (with_reducible refine o_nei ?_) | (with_reducible refine o_isnn ?_) | (with_reducible refine o_isni ?_) | (with_reducible refine o_isns ?_) | (with_reducible refine o_min ?_) | (with_reducible refine o_int ?_) | (with_reducible refine o_neg ?_) | (with_reducible refine o_lenT ?_) | (with_reducible refine o_lenL ?_) | (with_reducible refine sq_nx ?_) | (with_reducible refine sq_rt ?_) | ((with_reducible apply w_var); focus exact rfl) | (with_reducible refine w_tup ?_) | (with_reducible refine w_lst ?_) | (with_reducible refine w_new ?_) | ((with_reducible refine sz_and ?_ ?_); focus (simp only [List.length_cons, List.length_nil, sL] <;> omega)) | (with_reducible refine w_meth ?_) | (with_reducible refine w_lc ?_) | (with_reducible refine w_dput ?_) | (with_reducible refine w_dget ?_) | (with_reducible refine w_dget2 ?_) | ((with_reducible apply ex_rfl); focus exact rfl) | (with_reducible refine o_mod (by decide) ?_))
local macro_rules | `(tactic| walk_at "u") => `(tactic| first | (with_reducible refine w_seq ?_) | (with_reducible refine w_set ?_) | (with_reducible refine w_ret ?_) | (with_reducible refine w_drop ?_) | (with_reducible refine w_nx ?_) | (with_reducible refine w_bin ?_) | (with_reducible refine w_test ?_) | (with_reducible refine w_andT ?_) | (with_reducible refine w_orT ?_) | (with_reducible refine w_notT ?_) | (with_reducible refine w_and ?_) | (with_reducible refine w_nil ?_) | (with_reducible refine w_cons ?_) | (with_reducible refine w_op ?_) | (with_reducible refine w_call0 ?_) | (with_reducible refine w_sl ?_) | (with_reducible refine w_nop ?_) | (with_reducible refine w_p ?_) | (with_reducible refine w_yes ?_) | (with_reducible refine w_c ?_) | (with_reducible refine w_un ?_) | (with_reducible refine w_par ?_) | (with_reducible refine w_asg ?_) | (with_reducible refine o_add ?_) | (with_reducible refine o_sub ?_) | (with_reducible refine o_lt ?_) | (with_reducible refine o_le ?_) | (with_reducible refine o_gt ?_) | (with_reducible refine o_ge ?_) | (with_reducible refine o_eqs ?_) | (with_reducible refine o_eqi ?_) | (with_reducible refine o_eqb ?_) | (with_reducible refine o_nes ?_) | (with_reducible refine o_nei ?_) | (with_reducible refine o_isnn ?_) | (with_reducible refine o_isni ?_) | (with_reducible refine o_isns ?_) | (with_reducible refine o_min ?_) | (with_reducible refine o_int ?_) | (with_reducible refine o_neg ?_) | (with_reducible refine o_lenT ?_) | (with_reducible refine o_lenL ?_) | (with_reducible refine sq_nx ?_) | (with_reducible refine sq_rt ?_) | ((with_reducible apply w_var); focus exact rfl) | (with_reducible refine w_tup ?_) | (with_reducible refine w_lst ?_) | (with_reducible refine w_new ?_) | ((with_reducible refine sz_and ?_ ?_); focus (simp only [List.length_cons, List.length_nil, sL] <;> omega)) | (with_reducible refine w_meth ?_)  | (with_reducible refine w_dput ?_) | (with_reducible refine w_dget ?_) | (with_reducible refine w_dget2 ?_) | ((with_reducible apply ex_rfl); focus exact rfl) | (with_reducible refine o_mod (by decide) ?_))

def shutL (rows : List Row) (t : Nat) : Bool := decide (0 < t) && (isClosed (rowAt rows 0) && ((((rows.drop 1).take (t - 1)).filter isCall).map Row.d).isEmpty)
theorem cut_one {α : Type} (xs : List α) (t : Nat) (h : t ≤ xs.length) : FS.cutD xs (some 1) (some (t : Int)) = (xs.drop 1).take (t - 1) := by
  unfold FS.cutD
  rw [sIx_nat, show HT.sIx xs.length 0 (some 1) = min 1 xs.length from sIx_nat (k := 1), Nat.min_eq_left h]
  cases xs with
  | nil => simp
  | cons x xs => rw [show min 1 (x :: xs).length = 1 by simp]
theorem run_shut {rows : List Row} {rd : D} {t : Nat} {S : Sto} (c : Clo S) (hr : sqOf S rd = some (rows.map Row.d)) (hk : ∀ r ∈ rows, ROk r) (ht : t ≤ rows.length) (hl : rows.length ≤ 1000) :
    F__law_is_shut [rd, .int t] S = some (.bl (shutL rows t), S) := by
  refine settled_same ?_ c rfl
  have main : W2 (runFn 2 3 b__law_is_shut [rd, .int t] S) fun d S' => d = .bl (shutL rows t) ∧ S' = S := by
    refine w_run rfl ?_
    unfold b__law_is_shut
    repeat walk_at "v"
    refine ⟨fun h => ?_, fun h => ?_⟩
    · have h1 : 0 < t := by have := of_decide_eq_true h; omega
      repeat walk_at "v"
      refine w1 (row_ix (n := 0) hr (by omega)) ?_
      repeat walk_at "v"
      have hr0 : ROk (rowAt rows 0) := hk _ (List.mem_of_getElem? (rowAt_get (by omega)))
      refine w1 (closed_eq hr0) ?_
      repeat walk_at "v"
      refine ⟨fun h2 => ?_, fun h2 => ?_⟩
      · (with_reducible refine w_bin ?_)
        refine w_lcsel Row.d isCall Row.d ((rows.drop 1).take (t - 1)) none (w_src1 ?_) rfl (fun r hr => ?_) ?_
        · repeat walk_at "v"
          obtain ⟨e, e1, e2⟩ := slice_any (some 1) (some (t : Int)) hr
          refine w1 e1 ?_
          rw [cut_one _ _ (by rw [List.length_map]; exact ht), ← List.map_drop, ← List.map_take] at e2
          exact ⟨e2, rfl⟩
        · refine ⟨_, rfl, ?_, fun h => ?_⟩
          · repeat walk_at "v"
            refine w1 (tag_at _ _) ?_
            repeat walk_at "v"
            exact ⟨tag_call _, rfl⟩
          · repeat walk_at "v"
            exact ⟨rfl, rfl⟩
        · repeat walk_at "v"
          have hn : NiceL ((((rows.drop 1).take (t - 1)).filter isCall).map Row.d) 3 ((160000 + 2) * ((((rows.drop 1).take (t - 1)).filter isCall).map Row.d).length) := NiceL.all fun d hd => by
            obtain ⟨r, hr, rfl⟩ := List.mem_map.mp hd
            exact nice_row (hk r (List.mem_of_mem_drop (List.mem_of_mem_take (List.mem_filter.mp hr).1)))
          refine w1 (eqO_nil false hn (by decide)) ⟨_, rfl, ?_, rfl⟩
          unfold shutL
          rw [decide_eq_true h1, h2, Bool.true_and, Bool.true_and]
          rfl
      · refine ⟨_, rfl, ?_, rfl⟩
        unfold shutL
        rw [h2, Bool.false_and, Bool.and_false]
    · have h1 : ¬ 0 < t := by have := of_decide_eq_false h; omega
      refine ⟨_, rfl, ?_, rfl⟩
      unfold shutL
      rw [decide_eq_false h1, Bool.false_and]
  obtain ⟨d, S', e, rfl, rfl⟩ := main
  exact e
/-! ### draws on the way -/
theorem set_app {S T : Sto} {r : Nat} (h : r < S.length) (u v : MO) : (S.set r u ++ T).set r v = S.set r v ++ T := by
  rw [List.set_append_left _ _ (by rw [List.length_set]; exact h), List.set_set]
theorem get_app {S T : Sto} {r : Nat} (h : r < S.length) (u : MO) : (S.set r u ++ T)[r]? = some u := by
  rw [List.getElem?_append_left (by rw [List.length_set]; exact h), List.getElem?_set_self h]
theorem draw_at {S T : Sto} {r c : Nat} {u : MO} {many : Int} {Q : D → Sto → Prop} (cS : Clo (S.set r u ++ T)) (hr : r < S.length) (hu : RdM u c) (hc : c ≤ 100000) (hm : 0 < many) (hm2 : many < 1073741824)
    (k : ∀ i u', 0 ≤ i → i < many → RdM u' (c + 1) → Q (.int i) (S.set r u' ++ T)) : W2 (F__law_draw [.ref r, .int many] (S.set r u ++ T)) Q := by
  obtain ⟨i, u', e, h1, h2, h3⟩ := run_draw cS (get_app hr u) hu hc hm hm2
  rw [set_app hr] at e
  exact w2 e (k i u' h2 h3 h1)
theorem draw_at0 {S : Sto} {r c : Nat} {u : MO} {many : Int} {Q : D → Sto → Prop} (cS : Clo (S.set r u)) (hr : r < S.length) (hu : RdM u c) (hc : c ≤ 100000) (hm : 0 < many) (hm2 : many < 1073741824)
    (k : ∀ i u', 0 ≤ i → i < many → RdM u' (c + 1) → Q (.int i) (S.set r u')) : W2 (F__law_draw [.ref r, .int many] (S.set r u)) Q := by
  have := draw_at (T := []) (Q := Q) (by rw [List.append_nil]; exact cS) hr hu hc hm hm2 (fun i u' a b c => by rw [List.append_nil]; exact k i u' a b c)
  rwa [List.append_nil] at this
theorem lmOf_set {S : Sto} {r : Nat} {v : MO} {kvs : List (Key × D)} {d : D} {xs : List D} (hd : S[r]? = some (.dct kvs)) (h : lmOf S d = some xs) : lmOf (S.set r v) d = some xs := by
  unfold lmOf at h ⊢
  split at h
  · exact h
  · rename_i n
    by_cases e : r = n
    · subst e; rw [hd] at h; cases h
    · rw [List.getElem?_set_ne e]; exact h
  · cases h
theorem lmOf_app {S T : Sto} {d : D} {xs : List D} (h : lmOf S d = some xs) : lmOf (S ++ T) d = some xs := by
  unfold lmOf at h ⊢
  split at h
  · exact h
  · rename_i n
    split at h
    · rename_i ys e
      rw [List.getElem?_append_left (List.getElem?_eq_some_iff.mp e).1, e]
      exact h
    · cases h
  · cases h
theorem sq_lm {S : Sto} {d : D} {xs : List D} (h : lmOf S d = some xs) : sqOf S d = some xs := sqOf_of_ls (lsOf_lm h)
theorem w_forq {r : Gs} {t : Tg} {b : B} {ρ : Rho} {S : Sto} {Q3 : Flw → Rho → Sto → Prop} (P : Nat → Sto → Prop) (St : Nat → Nat → Rho → Sto → Prop)
    (h : W2 (r ρ S) fun xs S1 => ∃ n : Nat, xs = [.int n] ∧ n ≤ 1000000 ∧ P n S1) (h0 : ∀ n S1, P n S1 → St n 0 ρ S1)
    (hs : ∀ n i, i < n → ∀ ρ S, St n i ρ S → ∃ ρ1, t (.int (i : Int)) ρ = some ρ1 ∧ W3 (b ρ1 S) fun fl ρ2 S2 => (fl = .nx ∨ fl = .ct) ∧ St n (i + 1) ρ2 S2)
    (k : ∀ n ρ' S', St n n ρ' S' → Q3 .nx ρ' S') : W3 (cFor (sRng1 r) t b ρ S) Q3 := by
  obtain ⟨xs, S1, e, n, rfl, hn, hP⟩ := h
  refine w_forr (S1 := S1) n (St n) ?_ (h0 n S1 hP) (hs n) (k n)
  unfold sRng1
  rw [e]
  dsimp only
  rw [if_pos ⟨by omega, by omega⟩]
  simp
/-! ### fills that are drawn -/
def sideD : Option Str → D
  | none => .non
  | some s => .str s
def zsum (fs : List Fill) : Int := (fs.map (·.z)).sum
def late (rows : List Row) (fs : List Fill) : List Row := rows ++ [.prints fs]
def sgn (s : Str) : Int := if (s == ("buy" : Str)) = true then 1 else -1
structure Cand (rows : List Row) (fs : List Fill) (side : Option Str) (limit : Int) (k : Nat) : Prop where
  opn : k ∈ openL (late rows fs) rows.length fs.length
  other : ∀ s, side = some s → (sideOf (rowAt rows k) == s) = false
  price : ∀ s, side = some s → (priceOf (rowAt rows k) - limit) * sgn s ≤ 0
structure FillBy (rows : List Row) (left : Int) (side : Option Str) (limit : Int) (fs : List Fill) (f : Fill) : Prop where
  one : 1 ≤ f.z
  three : f.z ≤ 3
  fit : f.z ≤ left - zsum fs
  own : ∀ n, f.n = some n → ∃ k : Nat, n = k ∧ Cand rows fs side limit k ∧ f.p = priceOf (rowAt rows k) ∧ f.z ≤ restL (late rows fs) k rows.length fs.length
  free : f.n = none → side = none → 8 ≤ f.p ∧ f.p ≤ 12
  lim : f.n = none → ∀ s, side = some s → 0 ≤ (limit - f.p) * sgn s ∧ (limit - f.p) * sgn s ≤ 2
inductive FillsBy (rows : List Row) (left : Int) (side : Option Str) (limit : Int) : List Fill → Prop
  | nil : FillsBy rows left side limit []
  | snoc {fs f} (h : FillsBy rows left side limit fs) (s : FillBy rows left side limit fs f) : FillsBy rows left side limit (fs ++ [f])
theorem open_lt {rows : List Row} {t i k : Nat} (h : k ∈ openL rows t i) : k < t ∧ k < rows.length ∧ isOrd (rowAt rows k) = true := by
  have h1 := List.mem_filter.mp h
  have h2 := List.mem_filter.mp h1.1
  have h3 := h1.2
  unfold openP at h3
  simp only [Bool.and_eq_true, decide_eq_true_eq] at h3
  exact ⟨h3.1.1, by simpa using h2.1, h2.2⟩
theorem late_at {rows : List Row} {fs : List Fill} {k : Nat} (h : k < rows.length) : rowAt (late rows fs) k = rowAt rows k := by
  unfold rowAt late
  rw [List.getElem?_append_left h]
theorem Cand.lt {rows : List Row} {fs : List Fill} {side : Option Str} {limit : Int} {k : Nat} (h : Cand rows fs side limit k) : k < rows.length ∧ isOrd (rowAt rows k) = true := by
  obtain ⟨h1, h2, h3⟩ := open_lt h.opn
  rw [late_at h1] at h3
  exact ⟨h1, h3⟩
end Gn
set_option Elab.async false
set_option linter.all false
set_option maxRecDepth 100000
set_option maxHeartbeats 8000000
namespace Gn
open PySem PySem.Spec PyProof.Rows L2 FS
local macro_rules | `(tactic| walk_at "w") => `(tactic| first | (with_reducible refine w_seq ?_) | (with_reducible refine w_set ?_) | (with_reducible refine w_ret ?_) | (with_reducible refine w_drop ?_) | (with_reducible refine w_nx ?_) | (with_reducible refine w_bin ?_) | (with_reducible refine w_test ?_) | (with_reducible refine w_andT ?_) | (with_reducible refine w_orT ?_) | (with_reducible refine w_notT ?_) | (with_reducible refine w_and ?_) | (with_reducible refine w_nil ?_) | (with_reducible refine w_cons ?_) | (with_reducible refine w_op ?_) | (with_reducible refine w_call0 ?_) | (with_reducible refine w_sl ?_) | (with_reducible refine w_nop ?_) | (with_reducible refine w_p ?_) | (with_reducible refine w_yes ?_) | (with_reducible refine w_c ?_) | (with_reducible refine w_un ?_) | (with_reducible refine w_par ?_) | (with_reducible refine w_asg ?_) | (with_reducible refine w_ifs ?_) | (with_reducible refine w_if ?_) | (with_reducible refine o_add ?_) | (with_reducible refine o_sub ?_) | (with_reducible refine o_lt ?_) | (with_reducible refine o_le ?_) | (with_reducible refine o_gt ?_) | (with_reducible refine o_ge ?_) | (with_reducible refine o_eqs ?_) | (with_reducible refine o_eqi ?_) | (with_reducible refine o_eqb ?_) | (with_reducible refine o_nes ?_) | (with_reducible refine o_nei ?_) | (with_reducible refine o_isnn ?_) | (with_reducible refine o_isni ?_) | (with_reducible refine o_isns ?_) | (with_reducible refine o_min ?_) | (with_reducible refine o_int ?_) | (with_reducible refine o_neg ?_) | (with_reducible refine o_lenT ?_) | (with_reducible refine o_lenL ?_) | (with_reducible refine sq_nx ?_) | (with_reducible refine sq_rt ?_) | ((with_reducible apply w_var); focus exact rfl) | (with_reducible refine w_tup ?_) | (with_reducible refine w_lst ?_) | (with_reducible refine w_new ?_) | ((with_reducible refine sz_and ?_ ?_); focus (simp only [List.length_cons, List.length_nil, sL] <;> omega)) | (with_reducible refine w_meth ?_) | (with_reducible refine w_lc ?_) | (with_reducible refine w_dput ?_) | (with_reducible refine w_dget ?_) | (with_reducible refine w_dget2 ?_) | ((with_reducible apply ex_rfl); focus exact rfl) | (with_reducible refine o_mod (by decide) ?_))
local macro_rules | `(tactic| walk_at "v") => `(tactic| first | (with_reducible refine w_seq ?_) | (with_reducible refine w_set ?_) | (with_reducible refine w_ret ?_) | (with_reducible refine w_drop ?_) | (with_reducible refine w_nx ?_) | (with_reducible refine w_bin ?_) | (with_reducible refine w_test ?_) | (with_reducible refine w_andT ?_) | (with_reducible refine w_orT ?_) | (with_reducible refine w_notT ?_) | (with_reducible refine w_and ?_) | (with_reducible refine w_nil ?_) | (with_reducible refine w_cons ?_) | (with_reducible refine w_op ?_) | (with_reducible refine w_call0 ?_) | (with_reducible refine w_sl ?_) | (with_reducible refine w_nop ?_) | (with_reducible refine w_p ?_) | (with_reducible refine w_yes ?_) | (with_reducible refine w_c ?_) | (with_reducible refine w_un ?_) | (with_reducible refine w_par ?_) | (with_reducible refine w_asg ?_) | (with_reducible refine o_add ?_) | (with_reducible refine o_sub ?_) | (with_reducible refine o_lt ?_) | (with_reducible refine o_le ?_) | (with_reducible refine o_gt ?_) | (with_reducible refine o_ge ?_) | (with_reducible refine o_eqs ?_) | (with_reducible refine o_eqi ?_) | (with_reducible refine o_eqb ?_) | (with_reducible refine o_nes ?_) | (with_reducible refine o_nei ?_) | (with_reducible refine o_isnn ?_) | (with_reducible refine o_isni ?_) | (with_reducible refine o_isns ?_) | (with_reducible refine o_min ?_) | (with_reducible refine o_int ?_) | (with_reducible refine o_neg ?_) | (with_reducible refine o_lenT ?_) | (with_reducible refine o_lenL ?_) | (with_reducible refine sq_nx ?_) | (with_reducible refine sq_rt ?_) | ((with_reducible apply w_var); focus exact rfl) | (with_reducible refine w_tup ?_) | (with_reducible refine w_lst ?_) | (with_reducible refine w_new ?_) | ((with_reducible refine sz_and ?_ ?_); focus (simp only [List.length_cons, List.length_nil, sL] <;> omega)) | (with_reducible refine w_meth ?_) | (with_reducible refine w_lc ?_) | (with_reducible refine w_dput ?_) | (with_reducible refine w_dget ?_) | (with_reducible refine w_dget2 ?_) | ((with_reducible apply ex_rfl); focus exact rfl) | (with_reducible refine o_mod (by decide) ?_))
local macro_rules | `(tactic| walk_at "u") => `(tactic| first | (with_reducible refine w_seq ?_) | (with_reducible refine w_set ?_) | (with_reducible refine w_ret ?_) | (with_reducible refine w_drop ?_) | (with_reducible refine w_nx ?_) | (with_reducible refine w_bin ?_) | (with_reducible refine w_test ?_) | (with_reducible refine w_andT ?_) | (with_reducible refine w_orT ?_) | (with_reducible refine w_notT ?_) | (with_reducible refine w_and ?_) | (with_reducible refine w_nil ?_) | (with_reducible refine w_cons ?_) | (with_reducible refine w_op ?_) | (with_reducible refine w_call0 ?_) | (with_reducible refine w_sl ?_) | (with_reducible refine w_nop ?_) | (with_reducible refine w_p ?_) | (with_reducible refine w_yes ?_) | (with_reducible refine w_c ?_) | (with_reducible refine w_un ?_) | (with_reducible refine w_par ?_) | (with_reducible refine w_asg ?_) | (with_reducible refine o_add ?_) | (with_reducible refine o_sub ?_) | (with_reducible refine o_lt ?_) | (with_reducible refine o_le ?_) | (with_reducible refine o_gt ?_) | (with_reducible refine o_ge ?_) | (with_reducible refine o_eqs ?_) | (with_reducible refine o_eqi ?_) | (with_reducible refine o_eqb ?_) | (with_reducible refine o_nes ?_) | (with_reducible refine o_nei ?_) | (with_reducible refine o_isnn ?_) | (with_reducible refine o_isni ?_) | (with_reducible refine o_isns ?_) | (with_reducible refine o_min ?_) | (with_reducible refine o_int ?_) | (with_reducible refine o_neg ?_) | (with_reducible refine o_lenT ?_) | (with_reducible refine o_lenL ?_) | (with_reducible refine sq_nx ?_) | (with_reducible refine sq_rt ?_) | ((with_reducible apply w_var); focus exact rfl) | (with_reducible refine w_tup ?_) | (with_reducible refine w_lst ?_) | (with_reducible refine w_new ?_) | ((with_reducible refine sz_and ?_ ?_); focus (simp only [List.length_cons, List.length_nil, sL] <;> omega)) | (with_reducible refine w_meth ?_)  | (with_reducible refine w_dput ?_) | (with_reducible refine w_dget ?_) | (with_reducible refine w_dget2 ?_) | ((with_reducible apply ex_rfl); focus exact rfl) | (with_reducible refine o_mod (by decide) ?_))

theorem addO_lm {S : Sto} {x y : D} {a b : List D} (hx : lmOf S x = some a) (hy : lmOf S y = some b) (hl : a.length + b.length ≤ sizeLine) : addO S x y = some (.lst (a ++ b)) := by
  cases x <;> first
    | cases hx; done
    | (cases y <;> first
        | cases hy; done
        | (unfold addO; simp only [hx, hy]; rw [if_pos hl]))
theorem tupleO_sq {S : Sto} {d : D} {xs : List D} (h : sqOf S d = some xs) : tupleO S [d] = some (.tup xs) := congrArg (Option.map D.tup) h
theorem own_at {S : Sto} {r : Nat} {u x : MO} : (S.set r u ++ [x])[S.length]? = some x := by
  rw [List.getElem?_append_right (by rw [List.length_set]; exact Nat.le_refl _), List.length_set, Nat.sub_self]
  rfl
theorem own_set {S : Sto} {r : Nat} {u x y : MO} : (S.set r u ++ [x]).set S.length y = S.set r u ++ [y] := by
  rw [List.set_append_right _ _ (by rw [List.length_set]; exact Nat.le_refl _), List.length_set, Nat.sub_self]
  rfl
theorem own_sq {S : Sto} {r : Nat} {u : MO} {xs : List D} : sqOf (S.set r u ++ [.lst xs]) (.ref S.length) = some xs := by
  refine sqOf_of_ls ?_
  unfold lsOf
  simp only [own_at]
theorem same_set {S : Sto} {r : Nat} {u : MO} (h : S[r]? = some u) : S.set r u = S := by
  obtain ⟨h1, h2⟩ := List.getElem?_eq_some_iff.mp h
  subst h2
  exact List.set_getElem_self h1
abbrev nf (r : Nat) (rd : D) (most left : Int) (sd : D) (limit : Int) (m : Nat) (t : Int) (x8 x9 x10 x11 x12 x13 x14 x15 : Option D) : Rho :=
  [some (.ref r), some rd, some (.int most), some (.int left), some sd, some (.int limit), some (.ref m), some (.int t), x8, x9, x10, x11, x12, x13, x14, x15]
theorem late_d (rows : List Row) (fs : List Fill) : rows.map Row.d ++ [.tup [.str "prints", .tup (fs.map Fill.d)]] = (late rows fs).map Row.d := by
  unfold late
  rw [List.map_append]
  rfl
theorem late_short {rows : List Row} {fs : List Fill} (h : Short rows) (hl : rows.length ≤ 900) (hf : fs.length ≤ 1000) : Short (late rows fs) := by
  refine ⟨by unfold late; rw [List.length_append, List.length_singleton]; omega, fun r hr => ?_⟩
  rcases List.mem_append.mp hr with hr | hr
  · exact h.2 r hr
  · rw [List.mem_singleton] at hr
    subst hr
    exact ⟨hf, by simp [callPs]⟩
theorem nice_ints {l : List Int} (h : ∀ i ∈ l, Sm i) : NiceL (l.map .int) 0 ((1921 + 2) * (l.map D.int).length) := NiceL.all fun d hd => by
  obtain ⟨i, hi, rfl⟩ := List.mem_map.mp hd
  exact .int (h i hi).wide
theorem some_nats (S : Sto) (neg : Bool) (L : List Nat) (h : ∀ k ∈ L, k < 1000) : eqO neg S (.lst (L.map fun (k : Nat) => .int k)) (.lst []) = some (.bl (if neg then !L.isEmpty else L.isEmpty)) := by
  have e : (L.map fun (k : Nat) => D.int k) = (L.map fun (k : Nat) => (k : Int)).map .int := by rw [List.map_map]; rfl
  rw [e, eqO_nil neg (nice_ints fun i hi => ?_) (by decide)]
  · cases L <;> rfl
  · obtain ⟨k, hk, rfl⟩ := List.mem_map.mp hi
    have := h k hk
    exact sm_bd (by omega) (by omega)
def optN : Option Nat → D
  | none => .non
  | some k => .int k
theorem open_len (rows : List Row) (t i : Nat) : (openL rows t i).length ≤ rows.length := by
  refine Nat.le_trans (List.length_filter_le _ _) (Nat.le_trans (List.length_filter_le _ _) ?_)
  rw [List.length_range]
  exact Nat.le_refl _
theorem isO_opt (neg : Bool) (S : Sto) (o : Option Nat) : isO neg S (optN o) .non = some (.bl (if o.isSome then neg else !neg)) := by
  cases o <;> rfl
theorem src_ref {i m : Nat} {ρ : Rho} {S : Sto} {xs : List D} (h : ρ[i]? = some (some (.ref m))) (h2 : S[m]? = some (.lst xs)) : sSeq (cVar i) ρ S = some (xs, some m, S) := by
  unfold sSeq cVar
  rw [h]
  dsimp only
  rw [h2]
theorem run_new_fills {rows : List Row} {rd : D} {r c most : Nat} {u : MO} {left limit : Int} {side : Option Str} {S : Sto} (cS : Clo S) (hu : S[r]? = some u) (hR : RdM u c) (hs : Short rows) (hl : rows.length ≤ 900) (hm : most ≤ 10)
    (hrd : lmOf S rd = some (rows.map Row.d)) (hc : c + 1 + 5 * most ≤ 100000) :
    ∃ fs u', F__law_new_fills [.ref r, rd, .int most, .int left, sideD side, .int limit] S = some (.tup (fs.map Fill.d), S.set r u') ∧ RdM u' (c + 1 + 5 * most) ∧ FillsBy rows left side limit fs ∧ fs.length ≤ most := by
  obtain ⟨kvs, hkvs⟩ : ∃ kvs, S[r]? = some (.dct kvs) := by
    obtain ⟨a, b, d, e, rfl, _⟩ := id hR
    exact ⟨_, hu⟩
  have hr : r < S.length := (List.getElem?_eq_some_iff.mp hu).1
  have hrd1 : ∀ v T, lmOf (S.set r v ++ T) rd = some (rows.map Row.d) := fun v T => lmOf_app (lmOf_set hkvs hrd)
  have cS1 : ∀ (v : MO) (n : Nat) (fs : List Fill), RdM v n → Clo (S.set r v ++ [.lst (fs.map Fill.d)]) := fun v n fs h => (cS.set h.closed).app (closed_fills _ _)
  have main : W2 (runFn 6 16 b__law_new_fills [.ref r, rd, .int most, .int left, sideD side, .int limit] S) fun d S' => ∃ fs u', d = .tup (fs.map Fill.d) ∧ S' = S.set r u' ++ [.lst (fs.map Fill.d)] ∧ RdM u' (c + 1 + 5 * most) ∧ FillsBy rows left side limit fs ∧ fs.length ≤ most := by
    refine w_run rfl ?_
    unfold b__law_new_fills
    refine w_mid (fun ρ1 S1 => ρ1 = nf r rd most left (sideD side) limit S.length rows.length none none none none none none none none ∧ S1 = S.set r u ++ [.lst []]) ?_ ?_
    · repeat walk_at "v"
      refine w1 (lenO_sq (sqOf_app (sq_lm hrd))) ?_
      repeat walk_at "v"
      refine ⟨_, _, rfl, rfl, ?_, by rw [same_set hu]⟩
      rw [List.length_map]
      rfl
    rintro ρ1 S1 ⟨rfl, rfl⟩
    (with_reducible refine w_seq ?_)
    refine w_forq (fun n S1 => n ≤ most ∧ ∃ u', S1 = S.set r u' ++ [.lst []] ∧ RdM u' (c + 1))
      (fun n k ρ S1 => n ≤ most ∧ ∃ x8 x9 x10 x11 x12 x13 x14 x15 u' fs, ρ = nf r rd most left (sideD side) limit S.length rows.length x8 x9 x10 x11 x12 x13 x14 x15 ∧ S1 = S.set r u' ++ [.lst (fs.map Fill.d)] ∧ RdM u' (c + 1 + 5 * k) ∧ FillsBy rows left side limit fs ∧ fs.length ≤ k) ?_ ?_ ?_ ?_
    · repeat walk_at "v"
      refine draw_at (cS1 _ _ [] hR) hr hR (by omega) (by omega) (by omega) fun i u' h0 h1 hu' => ?_
      repeat walk_at "v"
      exact ⟨i.toNat, by rw [Int.toNat_of_nonneg h0], by omega, by omega, u', rfl, hu'⟩
    · rintro n S1 ⟨hn, u', rfl, hu'⟩
      exact ⟨hn, _, _, _, _, _, _, _, _, u', [], rfl, rfl, hu', .nil, Nat.le_refl _⟩
    · rintro n k hkn ρ S1 ⟨hn, x8, x9, x10, x11, x12, x13, x14, x15, u1, fs, rfl, rfl, hu1, hfs, hlen⟩
      have hrows : ∀ k, k < rows.length → ixO (S.set r u1 ++ [.lst (fs.map Fill.d)]) rd (.int (k : Int)) = some (rowAt rows k).d := fun k hk => row_ix (sq_lm (hrd1 _ _)) hk
      have hshort : Short (late rows fs) := late_short hs hl (by omega)
      have clt : ∀ j, Cand rows fs side limit j → j < 1000 := fun j hj => by have := hj.lt.1; omega
      refine ⟨_, rfl, ?_⟩
      refine w_mid (fun ρ1 S1 => ρ1 = nf r rd most left (sideD side) limit S.length rows.length (some (.int (k : Int))) (some (.lst ((late rows fs).map Row.d))) x10 x11 x12 x13 x14 x15 ∧ S1 = S.set r u1 ++ [.lst (fs.map Fill.d)]) ?_ ?_
      · repeat walk_at "v"
        refine w1 (tupleO_sq own_sq) ?_
        repeat walk_at "v"
        refine w1 (addO_lm (hrd1 _ _) rfl ?_) ?_
        · rw [List.length_map, sL, List.length_singleton]; omega
        · rw [late_d]
          exact ⟨rfl, rfl, rfl⟩
      rintro ρ1 S1 ⟨rfl, rfl⟩
      -- the orders it may name
      refine w_mid (fun ρ1 S1 => ∃ L : List Nat, ρ1 = nf r rd most left (sideD side) limit S.length rows.length (some (.int (k : Int))) (some (.lst ((late rows fs).map Row.d))) (some (.lst (L.map fun (k : Nat) => .int k))) x11 x12 x13 x14 x15 ∧ S1 = S.set r u1 ++ [.lst (fs.map Fill.d)] ∧ L.length ≤ 1000 ∧ ∀ k ∈ L, k ∈ openL (late rows fs) rows.length fs.length ∧ ∀ s, side = some s → (sideOf (rowAt rows k) == s) = false) ?_ ?_
      · (with_reducible refine w_set ?_)
        refine w_lcsel (fun (k : Nat) => .int k) (fun k => match side with | none => true | some s => !(sideOf (rowAt rows k) == s)) (fun (k : Nat) => .int k) (openL (late rows fs) rows.length fs.length) none (w_src1 ?_) rfl (fun j hj => ?_) ?_
        · repeat walk_at "v"
          refine w1 (lenO_sq own_sq) ?_
          repeat walk_at "v"
          rw [List.length_map]
          exact w2 (run_open (cS1 _ _ fs hu1) hshort rfl) ⟨.inr rfl, rfl⟩
        · have hj2 : j < rows.length ∧ isOrd (rowAt rows j) = true := by
            obtain ⟨a, b, d⟩ := open_lt hj
            rw [late_at a] at d
            exact ⟨a, d⟩
          refine ⟨_, rfl, ?_, fun h => ?_⟩
          · cases side with
            | none =>
              unfold sideD
              repeat walk_at "v"
              refine ⟨fun _ => ⟨rfl, rfl⟩, fun h => by cases h⟩
            | some s =>
              unfold sideD
              repeat walk_at "v"
              refine ⟨fun h => (by cases h), fun _ => ?_⟩
              repeat walk_at "v"
              refine w1 (hrows j hj2.1) ?_
              repeat walk_at "v"
              refine w1 (side_at _ hj2.2) ?_
              repeat walk_at "v"
              exact ⟨rfl, rfl⟩
          · repeat walk_at "v"
            exact ⟨rfl, rfl⟩
        · refine ⟨rfl, _, rfl, rfl, Nat.le_trans (List.length_filter_le _ _) (Nat.le_trans (open_len _ _ _) hshort.1), fun j hj => ?_⟩
          obtain ⟨h1, h2⟩ := List.mem_filter.mp hj
          refine ⟨h1, fun s hs => ?_⟩
          subst hs
          simpa using h2
      rintro ρ1 S1 ⟨L0, rfl, rfl, hL0s, hL0⟩
      refine w_mid (fun ρ1 S1 => ∃ L : List Nat, ρ1 = nf r rd most left (sideD side) limit S.length rows.length (some (.int (k : Int))) (some (.lst ((late rows fs).map Row.d))) (some (.lst (L.map fun (k : Nat) => .int k))) x11 x12 x13 x14 x15 ∧ S1 = S.set r u1 ++ [.lst (fs.map Fill.d)] ∧ L.length ≤ 1000 ∧ ∀ k ∈ L, Cand rows fs side limit k) ?_ ?_
      · cases side with
        | none =>
          unfold sideD
          (with_reducible refine w_ifs ?_)
          repeat walk_at "v"
          refine ⟨fun h => (by cases h), fun _ => ?_⟩
          repeat walk_at "v"
          exact ⟨rfl, L0, rfl, rfl, hL0s, fun j hj => ⟨(hL0 j hj).1, (fun s h => nomatch h), (fun s h => nomatch h)⟩⟩
        | some s =>
          unfold sideD
          (with_reducible refine w_ifs ?_)
          repeat walk_at "v"
          refine ⟨fun _ => ?_, fun h => (by cases h)⟩
          (with_reducible refine w_set ?_)
          refine w_lcsel (fun (k : Nat) => .int k) (fun k => decide ((priceOf (rowAt rows k) - limit) * sgn s ≤ 0)) (fun (k : Nat) => .int k) L0 none (w_src1 ?_) rfl (fun j hj => ?_) ?_
          · repeat walk_at "v"
            exact ⟨.inr rfl, rfl⟩
          · have hj2 : j < rows.length ∧ isOrd (rowAt rows j) = true := by
              obtain ⟨a, b, d⟩ := open_lt (hL0 j hj).1
              rw [late_at a] at d
              exact ⟨a, d⟩
            refine ⟨_, rfl, ?_, fun h => ?_⟩
            · repeat walk_at "v"
              refine w1 (hrows j hj2.1) ?_
              repeat walk_at "v"
              refine w1 (price_at _ hj2.2) ?_
              repeat walk_at "v"
              refine w2_mid (fun d S1 => d = .int (sgn s) ∧ S1 = S.set r u1 ++ [.lst (fs.map Fill.d)]) ?_ ?_
              · (with_reducible refine w_if ?_)
                repeat walk_at "v"
                refine ⟨fun h => ?_, fun h => ?_⟩
                · repeat walk_at "v"
                  exact ⟨by unfold sgn; rw [if_pos h], rfl⟩
                · repeat walk_at "v"
                  exact ⟨by unfold sgn; rw [if_neg (by rw [h]; exact Bool.false_ne_true)], rfl⟩
              · rintro d S1 ⟨rfl, rfl⟩
                refine o_mul (.inr ?_) ?_
                · unfold sgn; split <;> decide
                · repeat walk_at "v"
                  exact ⟨rfl, rfl⟩
            · repeat walk_at "v"
              exact ⟨rfl, rfl⟩
          · refine ⟨rfl, _, rfl, rfl, Nat.le_trans (List.length_filter_le _ _) hL0s, fun j hj => ?_⟩
            obtain ⟨h1, h2⟩ := List.mem_filter.mp hj
            refine ⟨(hL0 j h1).1, (hL0 j h1).2, fun s' hs' => ?_⟩
            cases hs'
            exact of_decide_eq_true h2
      rintro ρ1 S1 ⟨L, rfl, rfl, hLs, hL⟩
      -- what is left
      refine w_mid (fun ρ1 S1 => ρ1 = nf r rd most left (sideD side) limit S.length rows.length (some (.int (k : Int))) (some (.lst ((late rows fs).map Row.d))) (some (.lst (L.map fun (k : Nat) => .int k))) (some (.int (left - zsum fs))) x12 x13 x14 x15 ∧ S1 = S.set r u1 ++ [.lst (fs.map Fill.d)]) ?_ ?_
      · (with_reducible refine w_set ?_)
        repeat walk_at "u"
        refine w_lcsel Fill.d (fun _ => true) (fun f => .int f.z) fs (some S.length) (src_ref rfl own_at) (still_at own_at) (fun f hf => ?_) ?_
        · refine ⟨_, rfl, ?_, fun _ => ?_⟩
          · repeat walk_at "v"
            exact ⟨rfl, rfl⟩
          · repeat walk_at "v"
            exact w1 (ix1 _ _ _ _) ⟨rfl, rfl⟩
        · have e := sum_ints (S := S.set r u1 ++ [.lst (fs.map Fill.d)]) (fs.map (·.z))
          rw [List.map_map] at e
          rw [List.filter_eq_self.mpr (fun _ _ => rfl)]
          repeat walk_at "v"
          refine w1 e ?_
          repeat walk_at "v"
          exact ⟨rfl, rfl, rfl⟩
      rintro ρ1 S1 ⟨rfl, rfl⟩
      -- who takes part
      refine w_mid (fun ρ1 S1 => ∃ (o : Option Nat) (u2 : MO), ρ1 = nf r rd most left (sideD side) limit S.length rows.length (some (.int (k : Int))) (some (.lst ((late rows fs).map Row.d))) (some (.lst (L.map fun (k : Nat) => .int k))) (some (.int (left - zsum fs))) (some (optN o)) x13 x14 x15 ∧ S1 = S.set r u2 ++ [.lst (fs.map Fill.d)] ∧ RdM u2 (c + 1 + 5 * k + 2) ∧ ∀ j, o = some j → Cand rows fs side limit j) ?_ ?_
      · (with_reducible refine w_set ?_)
        (with_reducible refine w_if ?_)
        repeat walk_at "v"
        refine w1 (some_nats _ true L fun j hj => clt j (hL j hj)) ?_
        repeat walk_at "v"
        refine ⟨fun h => ?_, fun h => ?_⟩
        · have hLn : L ≠ [] := by rintro rfl; cases h
          have hLp : 0 < L.length := List.length_pos_iff.mpr hLn
          repeat walk_at "v"
          refine draw_at (cS1 _ _ fs hu1) hr hu1 (by omega) (by decide) (by decide) fun i2 u2 h20 h21 hu2 => ?_
          repeat walk_at "v"
          refine ⟨fun h2 => ?_, fun h2 => ?_⟩
          · repeat walk_at "v"
            refine draw_at (cS1 _ _ fs hu2) hr hu2 (by omega) (by rw [List.length_map]; omega) (by rw [List.length_map]; omega) fun i3 u3 h30 h31 hu3 => ?_
            rw [List.length_map] at h31
            obtain ⟨j3, rfl⟩ : ∃ j3 : Nat, i3 = j3 := ⟨i3.toNat, by omega⟩
            have h32 : j3 < L.length := by omega
            refine w1 (a := .int (L[j3] : Nat)) ?_ ?_
            · rw [ixO_sq (xs := L.map fun (k : Nat) => D.int k) rfl, List.getElem?_map, List.getElem?_eq_getElem h32]
              rfl
            · exact ⟨rfl, some L[j3], u3, rfl, rfl, hu3, fun j hj => by cases hj; exact hL _ (List.getElem_mem h32)⟩
          · repeat walk_at "v"
            exact ⟨rfl, none, u2, rfl, rfl, hu2.mono (by omega), fun j hj => by cases hj⟩
        · refine ⟨fun h => (by cases h), fun _ => ?_⟩
          repeat walk_at "v"
          exact ⟨rfl, none, u1, rfl, rfl, hu1.mono (by omega), fun j hj => by cases hj⟩
      rintro ρ1 S1 ⟨o, u2, rfl, rfl, hu2, ho⟩
      have hrows2 : ∀ k, k < rows.length → ∀ v, ixO (S.set r v ++ [.lst (fs.map Fill.d)]) rd (.int (k : Int)) = some (rowAt rows k).d := fun k hk v => row_ix (sq_lm (hrd1 _ _)) hk
      have hz : (fs.map Fill.d).length < sizeLine := by rw [List.length_map, sL]; omega
      -- how much
      refine w_mid (fun ρ1 S1 => ∃ (room : Int), ρ1 = nf r rd most left (sideD side) limit S.length rows.length (some (.int (k : Int))) (some (.lst ((late rows fs).map Row.d))) (some (.lst (L.map fun (k : Nat) => .int k))) (some (.int (left - zsum fs))) (some (optN o)) (some (.int room)) x14 x15 ∧ S1 = S.set r u2 ++ [.lst (fs.map Fill.d)] ∧ room ≤ left - zsum fs ∧ ∀ j, o = some j → room ≤ restL (late rows fs) j rows.length fs.length) ?_ ?_
      · (with_reducible refine w_set ?_)
        (with_reducible refine w_if ?_)
        repeat walk_at "v"
        refine w1 (isO_opt _ _ _) ?_
        repeat walk_at "v"
        cases o with
        | none =>
          refine ⟨fun h => (by cases h), fun _ => ?_⟩
          repeat walk_at "v"
          exact ⟨rfl, _, rfl, rfl, Int.le_refl _, fun j hj => by cases hj⟩
        | some j =>
          have hj := ho j rfl
          obtain ⟨hj1, hj2⟩ := hj.lt
          refine ⟨fun _ => ?_, fun h => (by cases h)⟩
          repeat walk_at "v"
          refine w1 (lenO_sq own_sq) ?_
          repeat walk_at "v"
          rw [List.length_map]
          refine w2 (run_rest (cS1 _ _ fs hu2) hshort rfl (n := j) ?_ ?_) ?_
          · unfold late; rw [List.length_append]; omega
          · rw [late_at hj1]; exact hj2
          · repeat walk_at "v"
            exact ⟨rfl, _, rfl, rfl, by omega, fun j' hj' => by cases hj'; omega⟩
      rintro ρ1 S1 ⟨room, rfl, rfl, hroom1, hroom2⟩
      -- the fill
      have fin0 : RdM u2 (c + 1 + 5 * (k + 1)) := hu2.mono (by omega)
      (with_reducible refine w_ifs ?_)
      repeat walk_at "v"
      refine ⟨fun hpos => ?_, fun hpos => ?_⟩
      · have hp := of_decide_eq_true hpos
        refine w_mid (fun ρ1 S1 => ∃ (p : Int) (u3 : MO), ρ1 = nf r rd most left (sideD side) limit S.length rows.length (some (.int (k : Int))) (some (.lst ((late rows fs).map Row.d))) (some (.lst (L.map fun (k : Nat) => .int k))) (some (.int (left - zsum fs))) (some (optN o)) (some (.int room)) (some (.int p)) x15 ∧ S1 = S.set r u3 ++ [.lst (fs.map Fill.d)] ∧ RdM u3 (c + 1 + 5 * k + 3) ∧ (∀ j, o = some j → p = priceOf (rowAt rows j)) ∧ (o = none → 8 ≤ p ∧ p ≤ 12)) ?_ ?_
        · (with_reducible refine w_set ?_)
          (with_reducible refine w_if ?_)
          repeat walk_at "v"
          refine w1 (isO_opt _ _ _) ?_
          repeat walk_at "v"
          cases o with
          | none =>
            refine ⟨fun h => (by cases h), fun _ => ?_⟩
            repeat walk_at "v"
            refine draw_at (cS1 _ _ fs hu2) hr hu2 (by omega) (by decide) (by decide) fun i2 u3 h20 h21 hu3 => ?_
            repeat walk_at "v"
            exact ⟨rfl, _, u3, rfl, rfl, hu3, (fun j hj => by cases hj), fun _ => ⟨by omega, by omega⟩⟩
          | some j =>
            obtain ⟨hj1, hj2⟩ := (ho j rfl).lt
            refine ⟨fun _ => ?_, fun h => (by cases h)⟩
            repeat walk_at "v"
            refine w1 (hrows2 j hj1 _) ?_
            repeat walk_at "v"
            refine w1 (price_at _ hj2) ?_
            exact ⟨rfl, _, u2, rfl, rfl, hu2.mono (by omega), (fun j hj => by cases hj; rfl), fun h => by cases h⟩
        rintro ρ1 S1 ⟨p, u3, rfl, rfl, hu3, hp1, hp2⟩
        refine w_mid (fun ρ1 S1 => ∃ (p : Int) (u4 : MO), ρ1 = nf r rd most left (sideD side) limit S.length rows.length (some (.int (k : Int))) (some (.lst ((late rows fs).map Row.d))) (some (.lst (L.map fun (k : Nat) => .int k))) (some (.int (left - zsum fs))) (some (optN o)) (some (.int room)) (some (.int p)) x15 ∧ S1 = S.set r u4 ++ [.lst (fs.map Fill.d)] ∧ RdM u4 (c + 1 + 5 * k + 4) ∧ (∀ j, o = some j → p = priceOf (rowAt rows j)) ∧ (o = none → side = none → 8 ≤ p ∧ p ≤ 12) ∧ (o = none → ∀ s, side = some s → 0 ≤ (limit - p) * sgn s ∧ (limit - p) * sgn s ≤ 2)) ?_ ?_
        · (with_reducible refine w_ifs ?_)
          repeat walk_at "v"
          refine w1 (isO_opt _ _ _) ?_
          repeat walk_at "v"
          cases o with
          | some j =>
            refine ⟨fun h => (by cases h), fun _ => ?_⟩
            refine ⟨fun h => (by cases h), fun _ => ?_⟩
            repeat walk_at "v"
            exact ⟨rfl, _, u3, rfl, rfl, hu3.mono (by omega), hp1, (fun h => by cases h), fun h => by cases h⟩
          | none =>
            refine ⟨fun _ => ?_, fun h => (by cases h)⟩
            cases side with
            | none =>
              unfold sideD
              repeat walk_at "v"
              refine ⟨fun h => (by cases h), fun _ => ?_⟩
              repeat walk_at "v"
              exact ⟨rfl, _, u3, rfl, rfl, hu3.mono (by omega), hp1, (fun _ _ => hp2 rfl), fun _ s h => by cases h⟩
            | some s =>
              unfold sideD
              repeat walk_at "v"
              refine ⟨fun _ => ?_, fun h => (by cases h)⟩
              repeat walk_at "v"
              refine draw_at (cS1 _ _ fs hu3) hr hu3 (by omega) (by decide) (by decide) fun i4 u4 h40 h41 hu4 => ?_
              refine w2_mid (fun d S1 => d = .int (-sgn s) ∧ S1 = S.set r u4 ++ [.lst (fs.map Fill.d)]) ?_ ?_
              · (with_reducible refine w_if ?_)
                repeat walk_at "v"
                refine ⟨fun h => ?_, fun h => ?_⟩
                · repeat walk_at "v"
                  exact ⟨by unfold sgn; rw [if_pos h], rfl⟩
                · repeat walk_at "v"
                  exact ⟨by unfold sgn; rw [if_neg (by rw [h]; exact Bool.false_ne_true)]; rfl, rfl⟩
              · rintro d S1 ⟨rfl, rfl⟩
                refine o_mul (.inr ?_) ?_
                · unfold sgn; split <;> decide
                · repeat walk_at "v"
                  refine ⟨rfl, _, u4, rfl, rfl, hu4, (fun j hj => by cases hj), (fun _ h => by cases h), fun _ s' hs' => ?_⟩
                  cases hs'
                  have hsg : sgn s = 1 ∨ sgn s = -1 := by unfold sgn; split <;> simp
                  rcases hsg with hsg | hsg <;> (rw [hsg]; omega)
        rintro ρ1 S1 ⟨p4, u4, rfl, rfl, hu4, hp41, hp42, hp43⟩
        repeat walk_at "v"
        refine ⟨isL_at own_at, ?_⟩
        repeat walk_at "v"
        refine draw_at (cS1 _ _ fs hu4) hr hu4 (by omega) (by omega) (by omega) fun i5 u5 h50 h51 hu5 => ?_
        repeat walk_at "v"
        refine w2 (app_to own_at hz) ?_
        rw [own_set]
        have hd : fs.map Fill.d ++ [.tup [.int p4, .int (1 + i5), optN o]] = (fs ++ [Fill.mk p4 (1 + i5) (o.map fun (k : Nat) => (k : Int))]).map Fill.d := by
          rw [List.map_append]
          cases o <;> rfl
        rw [hd]
        refine ⟨.inl rfl, hn, _, _, _, _, _, _, _, _, u5, _, rfl, rfl, hu5.mono (by omega), .snoc hfs ?_, by rw [List.length_append, List.length_singleton]; omega⟩
        refine ⟨by show (1 : Int) ≤ 1 + i5; omega, by show 1 + i5 ≤ 3; omega, by show 1 + i5 ≤ _; omega, fun n' hn' => ?_, fun h1 h2 => ?_, fun h1 s h2 => ?_⟩
        · cases o with
          | none => cases hn'
          | some j =>
            cases hn'
            exact ⟨j, rfl, ho j rfl, hp41 j rfl, by have := hroom2 j rfl; show 1 + i5 ≤ _; omega⟩
        · cases o with
          | none => exact hp42 rfl h2
          | some j => cases h1
        · cases o with
          | none => exact hp43 rfl s h2
          | some j => cases h1
      · repeat walk_at "v"
        exact ⟨.inl rfl, hn, _, _, _, _, _, _, _, _, u2, fs, rfl, rfl, fin0, hfs, by omega⟩
    · rintro n ρ' S' ⟨hn, x8, x9, x10, x11, x12, x13, x14, x15, u1, fs, rfl, rfl, hu1, hfs, hlen⟩
      (with_reducible refine sq_nx ?_)
      repeat walk_at "v"
      refine w1 (tupleO_sq own_sq) ?_
      exact ⟨_, rfl, fs, u1, rfl, rfl, hu1.mono (by omega), hfs, by omega⟩
  obtain ⟨d, S', e, fs, u', rfl, rfl, h1, h2, h3⟩ := main
  refine ⟨fs, u', ?_, h1, h2, h3⟩
  exact settled_to e (by rw [List.length_set]) (cS.set h1.closed) (by simp only [FS.closed]; exact closed_fills _ _)
end Gn
set_option Elab.async false
set_option linter.all false
set_option maxRecDepth 100000
set_option maxHeartbeats 8000000
namespace Gn
open PySem PySem.Spec PyProof.Rows L2 FS
local macro_rules | `(tactic| walk_at "w") => `(tactic| first | (with_reducible refine w_seq ?_) | (with_reducible refine w_set ?_) | (with_reducible refine w_ret ?_) | (with_reducible refine w_drop ?_) | (with_reducible refine w_nx ?_) | (with_reducible refine w_bin ?_) | (with_reducible refine w_test ?_) | (with_reducible refine w_andT ?_) | (with_reducible refine w_orT ?_) | (with_reducible refine w_notT ?_) | (with_reducible refine w_and ?_) | (with_reducible refine w_nil ?_) | (with_reducible refine w_cons ?_) | (with_reducible refine w_op ?_) | (with_reducible refine w_call0 ?_) | (with_reducible refine w_sl ?_) | (with_reducible refine w_nop ?_) | (with_reducible refine w_p ?_) | (with_reducible refine w_yes ?_) | (with_reducible refine w_c ?_) | (with_reducible refine w_un ?_) | (with_reducible refine w_par ?_) | (with_reducible refine w_asg ?_) | (with_reducible refine w_ifs ?_) | (with_reducible refine w_if ?_) | (with_reducible refine o_add ?_) | (with_reducible refine o_sub ?_) | (with_reducible refine o_lt ?_) | (with_reducible refine o_le ?_) | (with_reducible refine o_gt ?_) | (with_reducible refine o_ge ?_) | (with_reducible refine o_eqs ?_) | (with_reducible refine o_eqi ?_) | (with_reducible refine o_eqb ?_) | (with_reducible refine o_nes ?_) | (with_reducible refine o_nei ?_) | (with_reducible refine o_isnn ?_) | (with_reducible refine o_isni ?_) | (with_reducible refine o_isns ?_) | (with_reducible refine o_min ?_) | (with_reducible refine o_int ?_) | (with_reducible refine o_neg ?_) | (with_reducible refine o_lenT ?_) | (with_reducible refine o_lenL ?_) | (with_reducible refine sq_nx ?_) | (with_reducible refine sq_rt ?_) | ((with_reducible apply w_var); focus exact rfl) | (with_reducible refine w_tup ?_) | (with_reducible refine w_lst ?_) | (with_reducible refine w_new ?_) | ((with_reducible refine sz_and ?_ ?_); focus (simp only [List.length_cons, List.length_nil, sL] <;> omega)) | (with_reducible refine w_meth ?_) | (with_reducible refine w_lc ?_) | (with_reducible refine w_dput ?_) | (with_reducible refine w_dget ?_) | (with_reducible refine w_dget2 ?_) | ((with_reducible apply ex_rfl); focus exact rfl) | (with_reducible refine o_mod (by decide) ?_))
local macro_rules | `(tactic| walk_at "v") => `(tactic| first | (with_reducible refine w_seq ?_) | (with_reducible refine w_set ?_) | (with_reducible refine w_ret ?_) | (with_reducible refine w_drop ?_) | (with_reducible refine w_nx ?_) | (with_reducible refine w_bin ?_) | (with_reducible refine w_test ?_) | (with_reducible refine w_andT ?_) | (with_reducible refine w_orT ?_) | (with_reducible refine w_notT ?_) | (with_reducible refine w_and ?_) | (with_reducible refine w_nil ?_) | (with_reducible refine w_cons ?_) | (with_reducible refine w_op ?_) | (with_reducible refine w_call0 ?_) | (with_reducible refine w_sl ?_) | (with_reducible refine w_nop ?_) | (with_reducible refine w_p ?_) | (with_reducible refine w_yes ?_) | (with_reducible refine w_c ?_) | (with_reducible refine w_un ?_) | (with_reducible refine w_par ?_) | (with_reducible refine w_asg ?_) | (with_reducible refine o_add ?_) | (with_reducible refine o_sub ?_) | (with_reducible refine o_lt ?_) | (with_reducible refine o_le ?_) | (with_reducible refine o_gt ?_) | (with_reducible refine o_ge ?_) | (with_reducible refine o_eqs ?_) | (with_reducible refine o_eqi ?_) | (with_reducible refine o_eqb ?_) | (with_reducible refine o_nes ?_) | (with_reducible refine o_nei ?_) | (with_reducible refine o_isnn ?_) | (with_reducible refine o_isni ?_) | (with_reducible refine o_isns ?_) | (with_reducible refine o_min ?_) | (with_reducible refine o_int ?_) | (with_reducible refine o_neg ?_) | (with_reducible refine o_lenT ?_) | (with_reducible refine o_lenL ?_) | (with_reducible refine sq_nx ?_) | (with_reducible refine sq_rt ?_) | ((with_reducible apply w_var); focus exact rfl) | (with_reducible refine w_tup ?_) | (with_reducible refine w_lst ?_) | (with_reducible refine w_new ?_) | ((with_reducible refine sz_and ?_ ?_); focus (simp only [List.length_cons, List.length_nil, sL] <;> omega)) | (with_reducible refine w_meth ?_) | (with_reducible refine w_lc ?_) | (with_reducible refine w_dput ?_) | (with_reducible refine w_dget ?_) | (with_reducible refine w_dget2 ?_) | ((with_reducible apply ex_rfl); focus exact rfl) | (with_reducible refine o_mod (by decide) ?_))
local macro_rules | `(tactic| walk_at "u") => `(tactic| first | (with_reducible refine w_seq ?_) | (with_reducible refine w_set ?_) | (with_reducible refine w_ret ?_) | (with_reducible refine w_drop ?_) | (with_reducible refine w_nx ?_) | (with_reducible refine w_bin ?_) | (with_reducible refine w_test ?_) | (with_reducible refine w_andT ?_) | (with_reducible refine w_orT ?_) | (with_reducible refine w_notT ?_) | (with_reducible refine w_and ?_) | (with_reducible refine w_nil ?_) | (with_reducible refine w_cons ?_) | (with_reducible refine w_op ?_) | (with_reducible refine w_call0 ?_) | (with_reducible refine w_sl ?_) | (with_reducible refine w_nop ?_) | (with_reducible refine w_p ?_) | (with_reducible refine w_yes ?_) | (with_reducible refine w_c ?_) | (with_reducible refine w_un ?_) | (with_reducible refine w_par ?_) | (with_reducible refine w_asg ?_) | (with_reducible refine o_add ?_) | (with_reducible refine o_sub ?_) | (with_reducible refine o_lt ?_) | (with_reducible refine o_le ?_) | (with_reducible refine o_gt ?_) | (with_reducible refine o_ge ?_) | (with_reducible refine o_eqs ?_) | (with_reducible refine o_eqi ?_) | (with_reducible refine o_eqb ?_) | (with_reducible refine o_nes ?_) | (with_reducible refine o_nei ?_) | (with_reducible refine o_isnn ?_) | (with_reducible refine o_isni ?_) | (with_reducible refine o_isns ?_) | (with_reducible refine o_min ?_) | (with_reducible refine o_int ?_) | (with_reducible refine o_neg ?_) | (with_reducible refine o_lenT ?_) | (with_reducible refine o_lenL ?_) | (with_reducible refine sq_nx ?_) | (with_reducible refine sq_rt ?_) | ((with_reducible apply w_var); focus exact rfl) | (with_reducible refine w_tup ?_) | (with_reducible refine w_lst ?_) | (with_reducible refine w_new ?_) | ((with_reducible refine sz_and ?_ ?_); focus (simp only [List.length_cons, List.length_nil, sL] <;> omega)) | (with_reducible refine w_meth ?_)  | (with_reducible refine w_dput ?_) | (with_reducible refine w_dget ?_) | (with_reducible refine w_dget2 ?_) | ((with_reducible apply ex_rfl); focus exact rfl) | (with_reducible refine o_mod (by decide) ?_))

/-! ### picks -/
theorem pick_map {α β : Type} (g : α → β) (xs : List α) (lo hi st : Option Int) : pickD (xs.map g) lo hi st = (pickD xs lo hi st).map g := by
  unfold pickD
  rw [List.length_map, List.map_filterMap]
  refine congrArg (fun f => List.filterMap f _) (funext fun i => ?_)
  rw [List.getElem?_map]
theorem pick_mem {α : Type} {xs : List α} {lo hi st : Option Int} {x : α} (h : x ∈ pickD xs lo hi st) : x ∈ xs := by
  unfold pickD at h
  obtain ⟨i, _, e⟩ := List.mem_filterMap.mp h
  exact List.mem_of_getElem? e
theorem pick_len {α : Type} (xs : List α) {d : Int} (h : 0 ≤ d) : (pickD xs (some d) none (some 2)).length ≤ xs.length := by
  unfold pickD
  refine Nat.le_trans (List.length_filterMap_le _ _) ?_
  unfold sliceRange sliceBounds
  rw [List.length_map, List.length_range]
  simp only [Option.getD_some]
  split
  · split
    · split
      · omega
      · omega
    · omega
  · omega
theorem w_sl3 {f : G} {l u t : Gp} {ρ : Rho} {S : Sto} {Q : D → Sto → Prop} (h : W2 (f ρ S) fun x S1 => W2 (l ρ S1) fun lo S2 => W2 (u ρ S2) fun hi S3 => W2 (t ρ S3) fun st S4 => ∃ xs, lsOf S4 x = some xs ∧ st ≠ some 0 ∧ (pickD xs lo hi st).length ≤ sizeLine ∧ Q (.lst (pickD xs lo hi st)) S4) : W2 (cSl3 f l u t ρ S) Q := by
  obtain ⟨x, S1, e1, lo, S2, e2, hi, S3, e3, st, S4, e4, xs, e5, e6, e7, q⟩ := h
  refine ⟨_, S4, ?_, q⟩
  unfold cSl3
  rw [e1]
  dsimp only
  rw [e2]
  dsimp only
  rw [e3]
  dsimp only
  rw [e4]
  dsimp only
  rw [e5]
  dsimp only
  rw [if_pos ⟨e6, e7⟩]
/-- a list that is made while the store changes -/
theorem w_lcst {α β : Type} {src : Src} {t : Tg} {f : G} {vs : List Nat} {ρ : Rho} {S S1 : Sto} {Q : D → Sto → Prop} (enc : α → D) (dec : β → D) (xs : List α) (w : Option Nat) (I : List α → List β → Sto → Prop)
    (hsrc : src ρ S = some (xs.map enc, w, S1)) (h0 : I [] [] S1)
    (hs : ∀ pre x post acc S, xs = pre ++ x :: post → I pre acc S → ∃ ρ1, t (enc x) (wipeR ρ vs) = some ρ1 ∧ W2 (f ρ1 S) fun d S2 => ∃ b, d = dec b ∧ still (xs.map enc) w S2 = true ∧ I (pre ++ [x]) (acc ++ [b]) S2)
    (k : ∀ acc S', I xs acc S' → Q (.lst (acc.map dec)) S') : W2 (cLc src t cYes f vs ρ S) Q := by
  have key : ∀ (post pre : List α) (acc : List β) (S : Sto), xs = pre ++ post → I pre acc S → ∃ acc' S', lcB t cYes f (still (xs.map enc) w) (wipeR ρ vs) (post.map enc) S = some (acc'.map dec, S') ∧ I xs (acc ++ acc') S' := by
    intro post
    induction post with
    | nil =>
      intro pre acc S e h
      rw [List.append_nil] at e
      subst e
      exact ⟨[], S, rfl, by rw [List.append_nil]; exact h⟩
    | cons x post ih =>
      intro pre acc S e h
      obtain ⟨ρ1, e1, d, S2, e2, b, rfl, e3, h2⟩ := hs pre x post acc S e h
      obtain ⟨acc', S', e4, h4⟩ := ih (pre ++ [x]) (acc ++ [b]) S2 (by rw [e]; simp) h2
      refine ⟨b :: acc', S', ?_, by rw [List.append_cons]; exact h4⟩
      simp only [List.map_cons, lcB, e1, cYes, e2]
      rw [if_pos e3, e4]
  obtain ⟨acc, S', e, h⟩ := key xs [] [] S1 rfl h0
  rw [List.nil_append] at h
  refine ⟨_, S', ?_, k acc S' h⟩
  unfold cLc
  rw [hsrc]
  dsimp only
  rw [e]
/-! ### rows that are drawn -/
def goodP (rows : List Row) (p : Int) (k : Nat) : Bool := (decide (p ≤ priceOf (rowAt rows k)) == (sideOf (rowAt rows k) == ("buy" : Str))) || decide (priceOf (rowAt rows k) = p)
def goodL (rows : List Row) (p : Int) : List Nat := (openL rows rows.length 0).filter (goodP rows p)
structure CallBy (rows : List Row) (p : Int) (ps : List (Int × Int)) : Prop where
  names : ∃ d : Int, 0 ≤ d ∧ d < 2 ∧ ps.map (·.1) = (pickD (goodL rows p) (some d) none (some 2)).map fun (k : Nat) => (k : Int)
  sizes : ∀ q ∈ ps, ∃ k : Nat, q.1 = k ∧ k ∈ goodL rows p ∧ 1 ≤ q.2 ∧ q.2 ≤ restL rows k rows.length 0
inductive RowBy (rows : List Row) : Row → Prop
  | call {p : Int} {ps : List (Int × Int)} (hs : shutL rows rows.length = true) (h1 : 8 ≤ p) (h2 : p ≤ 12) (h : CallBy rows p ps) : RowBy rows (.call (some p) ps)
  | nocall (hs : shutL rows rows.length = true) : RowBy rows (.call none [])
  | cancel {k : Nat} (h : k ∈ openL rows rows.length 0) : RowBy rows (.cancel k)
  | prints {fs : List Fill} (hs : shutL rows rows.length = true → fs = []) (h : FillsBy rows 9 none 0 fs) (hl : fs.length ≤ 2) : RowBy rows (.prints fs)
  | order {m s : Str} {p z : Int} {fs : List Fill} (hm : m = "ann" ∨ m = "bob" ∨ m = "cy") (hs : s = "buy" ∨ s = "sell") (h1 : 8 ≤ p) (h2 : p ≤ 12) (h3 : 1 ≤ z) (h4 : z ≤ 6) (hc : shutL rows rows.length = true → fs = []) (h : FillsBy rows z (some s) p fs) (hl : fs.length ≤ 2) : RowBy rows (.order m s p z fs)
inductive RowsBy : List Row → Prop
  | nil : RowsBy []
  | shut : RowsBy [.closed]
  | snoc {rows : List Row} {x : Row} (h : RowsBy rows) (r : RowBy rows x) : RowsBy (rows ++ [x])
/-! ### their numbers are small -/
structure GF (f : Fill) : Prop where
  p1 : -100 ≤ f.p
  p2 : f.p ≤ 100
  z1 : 1 ≤ f.z
  z2 : f.z ≤ 3
  n : ∀ i, f.n = some i → 0 ≤ i ∧ i < 1000
def GR : Row → Prop
  | .order m s p z fs => Wd m ∧ Wd s ∧ 8 ≤ p ∧ p ≤ 12 ∧ 1 ≤ z ∧ z ≤ 6 ∧ fs.length ≤ 2 ∧ ∀ f ∈ fs, GF f
  | .prints fs => fs.length ≤ 2 ∧ ∀ f ∈ fs, GF f
  | .cancel n => 0 ≤ n ∧ n < 1000
  | .closed => True
  | .call p ps => (∀ i, p = some i → 8 ≤ i ∧ i ≤ 12) ∧ ps.length ≤ 40 ∧ ∀ q ∈ ps, 0 ≤ q.1 ∧ q.1 < 1000 ∧ 0 ≤ q.2 ∧ q.2 ≤ 6
theorem GF.ok {f : Fill} (h : GF f) : FOk f := ⟨sm_bd (by have := h.p1; omega) (by have := h.p2; omega), sm_bd (by have := h.z1; omega) (by have := h.z2; omega), fun i hi => sm_bd (by have := (h.n i hi).1; omega) (by have := (h.n i hi).2; omega)⟩
theorem GR.ok {r : Row} (h : GR r) : ROk r := by
  cases r with
  | order m s p z fs => exact .order h.1 h.2.1 (sm_bd (by have := h.2.2.1; omega) (by have := h.2.2.2.1; omega)) (sm_bd (by have := h.2.2.2.2.1; omega) (by have := h.2.2.2.2.2.1; omega)) (fun f hf => (h.2.2.2.2.2.2.2 f hf).ok) (by have := h.2.2.2.2.2.2.1; omega)
  | prints fs => exact .prints (fun f hf => (h.2 f hf).ok) (by have := h.1; omega)
  | cancel n => exact .cancel (sm_bd (by have := h.1; omega) (by have := h.2; omega))
  | closed => exact .closed
  | call p ps => exact .call (fun i hi => sm_bd (by have := (h.1 i hi).1; omega) (by have := (h.1 i hi).2; omega)) (fun q hq => by obtain ⟨a, b, c, d⟩ := h.2.2 q hq; exact ⟨sm_bd (by omega) (by omega), sm_bd (by omega) (by omega)⟩) h.2.1
theorem short_of {rows : List Row} (h : ∀ r ∈ rows, GR r) (hl : rows.length ≤ 900) : Short rows := by
  refine ⟨by omega, fun r hr => ?_⟩
  have := h r hr
  cases r with
  | order m s p z fs => exact ⟨by have := this.2.2.2.2.2.2.1; simp only [fillsOf]; omega, by simp [callPs]⟩
  | prints fs => exact ⟨by have := this.1; simp only [fillsOf]; omega, by simp [callPs]⟩
  | cancel n => exact ⟨by simp [fillsOf], by simp [callPs]⟩
  | closed => exact ⟨by simp [fillsOf], by simp [callPs]⟩
  | call p ps => exact ⟨by simp [fillsOf], by have := this.2.1; simp only [callPs]; omega⟩
theorem row_mem {rows : List Row} {k : Nat} (h : k < rows.length) : rowAt rows k ∈ rows := List.mem_of_getElem? (rowAt_get h)
theorem price_bd {rows : List Row} (h : ∀ r ∈ rows, GR r) {k : Nat} (hk : k < rows.length) (ho : isOrd (rowAt rows k) = true) : 8 ≤ priceOf (rowAt rows k) ∧ priceOf (rowAt rows k) ≤ 12 ∧ 1 ≤ sizeOf (rowAt rows k) ∧ sizeOf (rowAt rows k) ≤ 6 := by
  have := h _ (row_mem hk)
  generalize rowAt rows k = r at *
  cases r <;> first | exact ⟨this.2.2.1, this.2.2.2.1, this.2.2.2.2.1, this.2.2.2.2.2.1⟩ | cases ho
theorem fills_gf {rows : List Row} (h : ∀ r ∈ rows, GR r) (hl : rows.length ≤ 900) {left limit : Int} {side : Option Str} (h1 : side.isSome = true → 0 ≤ limit ∧ limit ≤ 50) {fs : List Fill} (hf : FillsBy rows left side limit fs) : ∀ f ∈ fs, GF f := by
  induction hf with
  | nil => intro f hf; cases hf
  | snoc h2 s ih =>
    rename_i fs f
    intro g hg
    rcases List.mem_append.mp hg with hg | hg
    · exact ih g hg
    · rw [List.mem_singleton] at hg
      subst hg
      have hp : -100 ≤ g.p ∧ g.p ≤ 100 := by
        cases hn : g.n with
        | some n =>
          obtain ⟨k, rfl, hc, e, _⟩ := s.own n hn
          have := price_bd h hc.lt.1 hc.lt.2
          omega
        | none =>
          cases side with
          | none => have := s.free hn rfl; omega
          | some sd =>
            have h3 := s.lim hn sd rfl
            have h4 := h1 rfl
            have hsg : sgn sd = 1 ∨ sgn sd = -1 := by unfold sgn; split <;> simp
            rcases hsg with hsg | hsg <;> (rw [hsg] at h3; omega)
      refine ⟨hp.1, hp.2, s.one, s.three, fun n hn => ?_⟩
      obtain ⟨k, rfl, hc, e, _⟩ := s.own n hn
      have := hc.lt.1
      omega
end Gn
set_option Elab.async false
set_option linter.all false
set_option maxRecDepth 100000
set_option maxHeartbeats 8000000
namespace Gn
open PySem PySem.Spec PyProof.Rows L2 FS
local macro_rules | `(tactic| walk_at "w") => `(tactic| first | (with_reducible refine w_seq ?_) | (with_reducible refine w_set ?_) | (with_reducible refine w_ret ?_) | (with_reducible refine w_drop ?_) | (with_reducible refine w_nx ?_) | (with_reducible refine w_bin ?_) | (with_reducible refine w_test ?_) | (with_reducible refine w_andT ?_) | (with_reducible refine w_orT ?_) | (with_reducible refine w_notT ?_) | (with_reducible refine w_and ?_) | (with_reducible refine w_nil ?_) | (with_reducible refine w_cons ?_) | (with_reducible refine w_op ?_) | (with_reducible refine w_call0 ?_) | (with_reducible refine w_sl ?_) | (with_reducible refine w_nop ?_) | (with_reducible refine w_p ?_) | (with_reducible refine w_yes ?_) | (with_reducible refine w_c ?_) | (with_reducible refine w_un ?_) | (with_reducible refine w_par ?_) | (with_reducible refine w_asg ?_) | (with_reducible refine w_ifs ?_) | (with_reducible refine w_if ?_) | (with_reducible refine o_add ?_) | (with_reducible refine o_sub ?_) | (with_reducible refine o_lt ?_) | (with_reducible refine o_le ?_) | (with_reducible refine o_gt ?_) | (with_reducible refine o_ge ?_) | (with_reducible refine o_eqs ?_) | (with_reducible refine o_eqi ?_) | (with_reducible refine o_eqb ?_) | (with_reducible refine o_nes ?_) | (with_reducible refine o_nei ?_) | (with_reducible refine o_isnn ?_) | (with_reducible refine o_isni ?_) | (with_reducible refine o_isns ?_) | (with_reducible refine o_min ?_) | (with_reducible refine o_int ?_) | (with_reducible refine o_neg ?_) | (with_reducible refine o_lenT ?_) | (with_reducible refine o_lenL ?_) | (with_reducible refine sq_nx ?_) | (with_reducible refine sq_rt ?_) | ((with_reducible apply w_var); focus exact rfl) | (with_reducible refine w_tup ?_) | (with_reducible refine w_lst ?_) | (with_reducible refine w_new ?_) | ((with_reducible refine sz_and ?_ ?_); focus (simp only [List.length_cons, List.length_nil, sL] <;> omega)) | (with_reducible refine w_meth ?_) | (with_reducible refine w_lc ?_) | (with_reducible refine w_dput ?_) | (with_reducible refine w_dget ?_) | (with_reducible refine w_dget2 ?_) | ((with_reducible apply ex_rfl); focus exact rfl) | (with_reducible refine o_mod (by decide) ?_))
local macro_rules | `(tactic| walk_at "v") => `(tactic| first | (with_reducible refine w_seq ?_) | (with_reducible refine w_set ?_) | (with_reducible refine w_ret ?_) | (with_reducible refine w_drop ?_) | (with_reducible refine w_nx ?_) | (with_reducible refine w_bin ?_) | (with_reducible refine w_test ?_) | (with_reducible refine w_andT ?_) | (with_reducible refine w_orT ?_) | (with_reducible refine w_notT ?_) | (with_reducible refine w_and ?_) | (with_reducible refine w_nil ?_) | (with_reducible refine w_cons ?_) | (with_reducible refine w_op ?_) | (with_reducible refine w_call0 ?_) | (with_reducible refine w_sl ?_) | (with_reducible refine w_nop ?_) | (with_reducible refine w_p ?_) | (with_reducible refine w_yes ?_) | (with_reducible refine w_c ?_) | (with_reducible refine w_un ?_) | (with_reducible refine w_par ?_) | (with_reducible refine w_asg ?_) | (with_reducible refine o_add ?_) | (with_reducible refine o_sub ?_) | (with_reducible refine o_lt ?_) | (with_reducible refine o_le ?_) | (with_reducible refine o_gt ?_) | (with_reducible refine o_ge ?_) | (with_reducible refine o_eqs ?_) | (with_reducible refine o_eqi ?_) | (with_reducible refine o_eqb ?_) | (with_reducible refine o_nes ?_) | (with_reducible refine o_nei ?_) | (with_reducible refine o_isnn ?_) | (with_reducible refine o_isni ?_) | (with_reducible refine o_isns ?_) | (with_reducible refine o_min ?_) | (with_reducible refine o_int ?_) | (with_reducible refine o_neg ?_) | (with_reducible refine o_lenT ?_) | (with_reducible refine o_lenL ?_) | (with_reducible refine sq_nx ?_) | (with_reducible refine sq_rt ?_) | ((with_reducible apply w_var); focus exact rfl) | (with_reducible refine w_tup ?_) | (with_reducible refine w_lst ?_) | (with_reducible refine w_new ?_) | ((with_reducible refine sz_and ?_ ?_); focus (simp only [List.length_cons, List.length_nil, sL] <;> omega)) | (with_reducible refine w_meth ?_) | (with_reducible refine w_lc ?_) | (with_reducible refine w_dput ?_) | (with_reducible refine w_dget ?_) | (with_reducible refine w_dget2 ?_) | ((with_reducible apply ex_rfl); focus exact rfl) | (with_reducible refine o_mod (by decide) ?_))
local macro_rules | `(tactic| walk_at "u") => `(tactic| first | (with_reducible refine w_seq ?_) | (with_reducible refine w_set ?_) | (with_reducible refine w_ret ?_) | (with_reducible refine w_drop ?_) | (with_reducible refine w_nx ?_) | (with_reducible refine w_bin ?_) | (with_reducible refine w_test ?_) | (with_reducible refine w_andT ?_) | (with_reducible refine w_orT ?_) | (with_reducible refine w_notT ?_) | (with_reducible refine w_and ?_) | (with_reducible refine w_nil ?_) | (with_reducible refine w_cons ?_) | (with_reducible refine w_op ?_) | (with_reducible refine w_call0 ?_) | (with_reducible refine w_sl ?_) | (with_reducible refine w_nop ?_) | (with_reducible refine w_p ?_) | (with_reducible refine w_yes ?_) | (with_reducible refine w_c ?_) | (with_reducible refine w_un ?_) | (with_reducible refine w_par ?_) | (with_reducible refine w_asg ?_) | (with_reducible refine o_add ?_) | (with_reducible refine o_sub ?_) | (with_reducible refine o_lt ?_) | (with_reducible refine o_le ?_) | (with_reducible refine o_gt ?_) | (with_reducible refine o_ge ?_) | (with_reducible refine o_eqs ?_) | (with_reducible refine o_eqi ?_) | (with_reducible refine o_eqb ?_) | (with_reducible refine o_nes ?_) | (with_reducible refine o_nei ?_) | (with_reducible refine o_isnn ?_) | (with_reducible refine o_isni ?_) | (with_reducible refine o_isns ?_) | (with_reducible refine o_min ?_) | (with_reducible refine o_int ?_) | (with_reducible refine o_neg ?_) | (with_reducible refine o_lenT ?_) | (with_reducible refine o_lenL ?_) | (with_reducible refine sq_nx ?_) | (with_reducible refine sq_rt ?_) | ((with_reducible apply w_var); focus exact rfl) | (with_reducible refine w_tup ?_) | (with_reducible refine w_lst ?_) | (with_reducible refine w_new ?_) | ((with_reducible refine sz_and ?_ ?_); focus (simp only [List.length_cons, List.length_nil, sL] <;> omega)) | (with_reducible refine w_meth ?_)  | (with_reducible refine w_dput ?_) | (with_reducible refine w_dget ?_) | (with_reducible refine w_dget2 ?_) | ((with_reducible apply ex_rfl); focus exact rfl) | (with_reducible refine o_mod (by decide) ?_))

theorem fills_gr {r : Row} (h : GR r) {f : Fill} (hf : f ∈ fillsOf r) : GF f := by
  cases r with
  | order m s p z fs => exact h.2.2.2.2.2.2.2 f hf
  | prints fs => exact h.2 f hf
  | _ => cases hf
theorem pairs_gr {r : Row} (h : GR r) {q : Int × Int} (hq : q ∈ callPs r) : 0 ≤ q.2 := by
  cases r with
  | call p ps => exact (h.2.2 q hq).2.2.1
  | _ => cases hq
theorem trades_pos {rows : List Row} (h : ∀ r ∈ rows, GR r) {t i : Nat} {q : Int × Int} (hq : q ∈ tradesL rows t i) : 0 ≤ q.2 := by
  obtain ⟨s, _, hs⟩ := List.mem_flatMap.mp hq
  unfold rowTr at hs
  split at hs
  · rename_i r e
    have hr := h r (List.mem_of_getElem? e)
    rcases List.mem_append.mp hs with hs | hs
    · obtain ⟨f, hf, hq⟩ := List.mem_flatMap.mp hs
      have hz := (fills_gr hr (List.mem_of_mem_take hf)).z1
      unfold fillTr at hq
      rcases List.mem_append.mp hq with hq | hq
      · split at hq
        · rw [List.mem_singleton] at hq; subst hq; show 0 ≤ f.z; omega
        · cases hq
      · split at hq
        · rw [List.mem_singleton] at hq; subst hq; show 0 ≤ f.z; omega
        · cases hq
    · split at hs
      · exact pairs_gr hr hs
      · cases hs
  · cases hs
theorem sum_pos : ∀ l : List Int, (∀ x ∈ l, 0 ≤ x) → 0 ≤ l.sum
  | [], _ => Int.le_refl _
  | x :: l, h => by
    rw [List.sum_cons]
    have := h x List.mem_cons_self
    have := sum_pos l fun y hy => h y (List.mem_cons_of_mem _ hy)
    omega
theorem tot_pos {rows : List Row} (h : ∀ r ∈ rows, GR r) (t i : Nat) (n : Int) : 0 ≤ tot (tradesL rows t i) n := by
  refine sum_pos _ fun x hx => ?_
  obtain ⟨q, hq, rfl⟩ := List.mem_map.mp hx
  exact trades_pos h (List.mem_filter.mp hq).1
theorem rest_bd {rows : List Row} (h : ∀ r ∈ rows, GR r) {t i k : Nat} (hk : k ∈ openL rows t i) : 0 < restL rows k t i ∧ restL rows k t i ≤ 6 := by
  obtain ⟨h1, h2, h3⟩ := open_lt hk
  have h4 := price_bd h h2 h3
  have h5 := tot_pos h t i k
  have h6 := (List.mem_filter.mp hk).2
  unfold openP at h6
  simp only [Bool.and_eq_true, decide_eq_true_eq] at h6
  unfold restL
  omega
theorem wd_lit (x : Str) (h : (x.cps.toList.all fun c => decide (c < 128)) = true) (hl : x.length ≤ 20) : Wd x := ⟨asc_lit h, hl⟩
theorem row_gr {rows : List Row} (h : ∀ r ∈ rows, GR r) (hl : rows.length ≤ 40) {x : Row} (hx : RowBy rows x) : GR x := by
  cases hx with
  | @call p ps hs h1 h2 hc =>
    refine ⟨(fun i hi => by cases hi; exact ⟨h1, h2⟩), ?_, fun q hq => ?_⟩
    · obtain ⟨d, h3, h4, e⟩ := hc.names
      have e2 := congrArg List.length e
      rw [List.length_map, List.length_map] at e2
      have := pick_len (goodL rows p) h3
      have := List.length_filter_le (goodP rows p) (openL rows rows.length 0)
      have := open_len rows rows.length 0
      unfold goodL at *
      omega
    · obtain ⟨k, e, hk, h3, h4⟩ := hc.sizes q hq
      have hk2 := (List.mem_filter.mp hk).1
      have := rest_bd h hk2
      have := (open_lt hk2).1
      exact ⟨by omega, by omega, by omega, by omega⟩
  | nocall hs => exact ⟨(fun i hi => by cases hi), by simp, fun q hq => by cases hq⟩
  | cancel hk =>
    have := (open_lt hk).1
    exact ⟨by omega, by omega⟩
  | prints hs hf hl2 => exact ⟨hl2, fills_gf h (by omega) (fun h => by cases h) hf⟩
  | order hm hs h1 h2 h3 h4 hc hf hl2 =>
    refine ⟨?_, ?_, h1, h2, h3, h4, hl2, fills_gf h (by omega) (fun _ => ⟨by omega, by omega⟩) hf⟩
    · rcases hm with rfl | rfl | rfl
      · exact wd_lit "ann" (by decide +kernel) (by decide +kernel)
      · exact wd_lit "bob" (by decide +kernel) (by decide +kernel)
      · exact wd_lit "cy" (by decide +kernel) (by decide +kernel)
    · rcases hs with rfl | rfl
      · exact wd_lit "buy" (by decide +kernel) (by decide +kernel)
      · exact wd_lit "sell" (by decide +kernel) (by decide +kernel)
theorem RowsBy.gr {rows : List Row} (h : RowsBy rows) (hl : rows.length ≤ 41) : ∀ r ∈ rows, GR r := by
  induction h with
  | nil => intro r hr; cases hr
  | shut => intro r hr; rw [List.mem_singleton] at hr; subst hr; exact trivial
  | snoc h x ih =>
    rw [List.length_append, List.length_singleton] at hl
    intro r hr
    rcases List.mem_append.mp hr with hr | hr
    · exact ih (by omega) r hr
    · rw [List.mem_singleton] at hr
      subst hr
      exact row_gr (ih (by omega)) (by omega) x
theorem pick_of {S : Sto} (L : List D) {n : Nat} (h : n < L.length) : ixO S (.lst L) (.int (n : Int)) = some L[n] := by
  rw [ixO_sq (xs := L) rfl, List.getElem?_eq_getElem h]
theorem w_seqLs {f : G} {ρ : Rho} {S S1 : Sto} {xs : List D} (h : W2 (f ρ S) fun d S' => d = .lst xs ∧ S' = S1) : sSeq f ρ S = some (xs, none, S1) := by
  obtain ⟨d, S', e, rfl, rfl⟩ := h
  unfold sSeq
  rw [e]
abbrev nr (r : Nat) (rd : D) (t : Int) (sh : Bool) (x4 x5 x6 x7 x8 x9 x10 x11 x12 x13 : Option D) : Rho := [some (.ref r), some rd, some (.int t), some (.bl sh), x4, x5, x6, x7, x8, x9, x10, x11, x12, x13]
theorem run_new_row {rows : List Row} {rd : D} {r c : Nat} {u : MO} {S : Sto} (cS : Clo S) (hu : S[r]? = some u) (hR : RdM u c) (hg : ∀ x ∈ rows, GR x) (hl : rows.length ≤ 40) (hrd : lmOf S rd = some (rows.map Row.d)) (hc : c + 60 ≤ 100000) :
    ∃ x u', F__law_new_row [.ref r, rd] S = some (x.d, S.set r u') ∧ RdM u' (c + 60) ∧ RowBy rows x := by
  obtain ⟨kvs, hkvs⟩ : ∃ kvs, S[r]? = some (.dct kvs) := by
    obtain ⟨a, b, d, e, rfl, _⟩ := id hR
    exact ⟨_, hu⟩
  have hr : r < S.length := (List.getElem?_eq_some_iff.mp hu).1
  have hrd1 : ∀ v, lmOf (S.set r v) rd = some (rows.map Row.d) := fun v => lmOf_set hkvs hrd
  have cS1 : ∀ (v : MO) (n : Nat), RdM v n → Clo (S.set r v) := fun v n h => cS.set h.closed
  have hshort := short_of hg (by omega)
  have hrows : ∀ (v : MO) k, k < rows.length → ixO (S.set r v) rd (.int (k : Int)) = some (rowAt rows k).d := fun v k hk => row_ix (sq_lm (hrd1 _)) hk
  have holt : ∀ j, j ∈ openL rows rows.length 0 → j < 1000 := fun j hj => by have := (open_lt hj).1; omega
  have hnf : ∀ (v : MO) (n : Nat) (left limit : Int) (side : Option Str), RdM v n → n ≤ c + 20 → ∃ fs u', F__law_new_fills [.ref r, rd, .int 2, .int left, sideD side, .int limit] (S.set r v) = some (.tup (fs.map Fill.d), S.set r u') ∧ RdM u' (n + 11) ∧ FillsBy rows left side limit fs ∧ fs.length ≤ 2 := by
    intro v n left limit side h hn
    obtain ⟨fs, u', e, h1, h2, h3⟩ := run_new_fills (S := S.set r v) (most := 2) (left := left) (limit := limit) (side := side) (cS1 _ _ h) (set_at hu) h hshort (by omega) (by decide) (hrd1 v) (by omega)
    rw [List.set_set] at e
    exact ⟨fs, u', e, h1, h2, h3⟩
  have main : W2 (runFn 2 14 b__law_new_row [.ref r, rd] S) fun d S' => ∃ x u', d = x.d ∧ S' = S.set r u' ∧ RdM u' (c + 60) ∧ RowBy rows x := by
    refine w_run rfl ?_
    unfold b__law_new_row
    refine w_mid (fun ρ1 S1 => ρ1 = nr r rd rows.length (shutL rows rows.length) none none none none none none none none none none ∧ S1 = S.set r u) ?_ ?_
    · repeat walk_at "v"
      refine w1 (lenO_sq (sq_lm hrd)) ?_
      repeat walk_at "v"
      refine w1 (lenO_sq (sq_lm hrd)) ?_
      repeat walk_at "v"
      rw [List.length_map]
      refine w2 (run_shut cS (sq_lm hrd) (fun x hx => (hg x hx).ok) (Nat.le_refl _) (by omega)) ?_
      repeat walk_at "v"
      exact ⟨rfl, rfl, (same_set hu).symm⟩
    rintro ρ1 S1 ⟨rfl, rfl⟩
    generalize hsh : shutL rows rows.length = sh
    refine w_mid (fun ρ1 S1 => ∃ (way : Int) (u1 : MO), ρ1 = nr r rd rows.length sh (some (.lst ((openL rows rows.length 0).map fun (k : Nat) => .int k))) (some (.int way)) none none none none none none none none ∧ S1 = S.set r u1 ∧ RdM u1 (c + 1)) ?_ ?_
    · repeat walk_at "v"
      refine w2 (run_open (i := 0) (cS1 _ _ hR) hshort (sq_lm (hrd1 _))) ?_
      repeat walk_at "v"
      refine draw_at0 (cS1 _ _ hR) hr hR (by omega) (by decide) (by decide) fun i1 u1 h10 h11 hu1 => ?_
      repeat walk_at "v"
      exact ⟨_, _, rfl, rfl, _, u1, rfl, rfl, hu1⟩
    rintro ρ1 S1 ⟨way, u1, rfl, rfl, hu1⟩
    refine w_midr (fun ρ1 S1 => ρ1 = nr r rd rows.length sh (some (.lst ((openL rows rows.length 0).map fun (k : Nat) => .int k))) (some (.int way)) none none none none none none none none ∧ S1 = S.set r u1) ?_ ?_
    · (with_reducible refine w_ifs ?_)
      repeat walk_at "v"
      refine ⟨fun h => ?_, fun h => ?_⟩
      · subst h
        repeat walk_at "v"
        refine ⟨fun h2 => ?_, fun h2 => ?_⟩
        · repeat walk_at "v"
          refine draw_at0 (cS1 _ _ hu1) hr hu1 (by omega) (by decide) (by decide) fun i2 u2 h20 h21 hu2 => ?_
          repeat walk_at "u"
          generalize hp : 8 + i2 = p
          refine w_lcsel (fun (k : Nat) => .int k) (goodP rows p) (fun (k : Nat) => .int k) (openL rows rows.length 0) none (w_src1 ?_) rfl (fun j hj => ?_) ?_
          · repeat walk_at "v"
            exact ⟨.inr rfl, rfl⟩
          · obtain ⟨hj0, hj1, hj2⟩ := open_lt hj
            refine ⟨_, rfl, ?_, fun h => ?_⟩
            · repeat walk_at "v"
              refine w1 (hrows _ j hj1) ?_
              repeat walk_at "v"
              refine w1 (price_at _ hj2) ?_
              repeat walk_at "v"
              refine w1 (hrows _ j hj1) ?_
              repeat walk_at "v"
              refine w1 (side_at _ hj2) ?_
              repeat walk_at "v"
              refine ⟨fun h => ?_, fun h => ?_⟩
              · refine ⟨?_, rfl⟩
                unfold goodP
                rw [h, Bool.true_or]
              · repeat walk_at "v"
                refine w1 (hrows _ j hj1) ?_
                repeat walk_at "v"
                refine w1 (price_at _ hj2) ?_
                repeat walk_at "v"
                refine ⟨?_, rfl⟩
                unfold goodP
                rw [h, Bool.false_or]
            · repeat walk_at "v"
              exact ⟨rfl, rfl⟩
          repeat walk_at "u"
          have hgood : ∀ j, j ∈ goodL rows p → j ∈ openL rows rows.length 0 := fun j hj => (List.mem_filter.mp hj).1
          have hgl : (goodL rows p).length ≤ 40 := Nat.le_trans (List.length_filter_le _ _) (Nat.le_trans (open_len _ _ _) hl)
          obtain ⟨i3, u3, e3, hu3, h30, h31⟩ := run_draw (cS1 _ _ hu2) (set_at hu) hu2 (by omega) (show (0 : Int) < 2 by decide) (by decide)
          rw [List.set_set] at e3
          have hpl := pick_len (goodL rows p) h30
          refine w_lcst (S1 := S.set r u3) (fun (k : Nat) => .int k) pD (pickD (goodL rows p) (some i3) none (some 2)) none (fun pre acc S1 => ∃ u4, S1 = S.set r u4 ∧ RdM u4 (c + 3 + pre.length) ∧ acc.map (·.1) = pre.map (fun (k : Nat) => (k : Int)) ∧ ∀ q ∈ acc, ∃ k : Nat, q.1 = k ∧ k ∈ goodL rows p ∧ 1 ≤ q.2 ∧ q.2 ≤ restL rows k rows.length 0) ?_ ⟨u3, rfl, hu3, rfl, fun q hq => by cases hq⟩ ?_ ?_
          · refine w_seqLs ?_
            refine w_sl3 ?_
            repeat walk_at "v"
            refine w2 e3 ?_
            repeat walk_at "v"
            refine ⟨by decide, ?_, ?_, rfl⟩
            · show (pickD ((goodL rows p).map fun (k : Nat) => D.int k) (some i3) none (some 2)).length ≤ sizeLine
              rw [pick_map, List.length_map, sL]; omega
            · show D.lst (pickD ((goodL rows p).map fun (k : Nat) => D.int k) (some i3) none (some 2)) = _
              rw [pick_map]
          · rintro pre j post acc S1 e ⟨u4, rfl, hu4, ha, hb⟩
            have hj : j ∈ goodL rows p := pick_mem (xs := goodL rows p) (by rw [e]; simp)
            have hj2 := hgood j hj
            obtain ⟨hj0, hj1, hj3⟩ := open_lt hj2
            have hrest := rest_bd hg hj2
            have hpre : pre.length + 1 ≤ 40 := by
              have := congrArg List.length e
              rw [List.length_append, List.length_cons] at this
              omega
            refine ⟨_, rfl, ?_⟩
            repeat walk_at "v"
            refine w2 (run_rest (i := 0) (cS1 _ _ hu4) hshort (sq_lm (hrd1 _)) hj1 hj3) ?_
            repeat walk_at "v"
            refine draw_at0 (cS1 _ _ hu4) hr hu4 (by omega) hrest.1 (by omega) fun i5 u5 h50 h51 hu5 => ?_
            repeat walk_at "v"
            refine ⟨(j, 1 + i5), rfl, rfl, u5, rfl, hu5.mono (by rw [List.length_append, List.length_singleton]; omega), by rw [List.map_append, List.map_append, ha]; rfl, fun q hq => ?_⟩
            rcases List.mem_append.mp hq with hq | hq
            · exact hb q hq
            · rw [List.mem_singleton] at hq
              subst hq
              exact ⟨j, rfl, hj, by show 1 ≤ 1 + i5; omega, by show 1 + i5 ≤ _; omega⟩
          · rintro acc S1 ⟨u4, rfl, hu4, ha, hb⟩
            have hcall : CallBy rows p acc := ⟨⟨i3, h30, h31, ha⟩, hb⟩
            have hal : acc.length ≤ 40 := by
              have := congrArg List.length ha
              rw [List.length_map, List.length_map] at this
              omega
            have hgr : GR (.call (some p) acc) := row_gr hg hl (.call hsh (by omega) (by omega) hcall)
            have hnice : NiceL (acc.map pD) 1 ((3849 + 2) * (acc.map pD).length) := NiceL.all fun d hd => by
              obtain ⟨q, hq, rfl⟩ := List.mem_map.mp hd
              obtain ⟨a1, a2, a3, a4⟩ := hgr.2.2 q hq
              exact Nice.tup ((NiceL.nil.cons (.int (sm_bd (by omega) (by omega)).wide)).cons (.int (sm_bd (by omega) (by omega)).wide))
            have hu5 : RdM u4 (c + 60) := hu4.mono (by omega)
            have fin1 : ∃ x u', (D.tup [.str "call", .int p, .tup (acc.map pD)]) = Row.d x ∧ S.set r u4 = S.set r u' ∧ RdM u' (c + 60) ∧ RowBy rows x := ⟨.call (some p) acc, u4, rfl, rfl, hu5, .call hsh (by omega) (by omega) hcall⟩
            repeat walk_at "v"
            (with_reducible refine w_if ?_)
            repeat walk_at "v"
            refine w1 (eqO_nil true hnice (by decide)) ?_
            repeat walk_at "v"
            refine ⟨fun h => ?_, fun h => ?_⟩
            · refine ⟨fun _ => ?_, fun h => by cases h⟩
              repeat walk_at "v"
              refine w1 (tupleO_sq rfl) ?_
              repeat walk_at "v"
              exact .inr ⟨_, rfl, _, rfl, fin1⟩
            · repeat walk_at "v"
              refine draw_at0 (cS1 _ _ hu4) hr hu4 (by omega) (by decide) (by decide) fun i6 u6 h60 h61 hu6 => ?_
              repeat walk_at "v"
              refine ⟨fun h6 => ?_, fun h6 => ?_⟩
              · repeat walk_at "v"
                refine w1 (tupleO_sq rfl) ?_
                repeat walk_at "v"
                exact .inr ⟨_, rfl, _, rfl, .call (some p) acc, u6, rfl, rfl, hu6.mono (by omega), .call hsh (by omega) (by omega) hcall⟩
              · repeat walk_at "v"
                exact .inr ⟨_, rfl, _, rfl, .call none [], u6, rfl, rfl, hu6.mono (by omega), .nocall hsh⟩
        · repeat walk_at "v"
          exact .inl ⟨rfl, rfl, rfl⟩
      · subst h
        refine ⟨fun h => (by cases h), fun _ => ?_⟩
        repeat walk_at "v"
        exact .inl ⟨rfl, rfl, rfl⟩
    rintro ρ1 S1 ⟨rfl, rfl⟩
    refine w_midr (fun ρ1 S1 => ρ1 = nr r rd rows.length sh (some (.lst ((openL rows rows.length 0).map fun (k : Nat) => .int k))) (some (.int way)) none none none none none none none none ∧ S1 = S.set r u1) ?_ ?_
    · (with_reducible refine w_ifs ?_)
      repeat walk_at "v"
      refine ⟨fun h => ?_, fun h => ?_⟩
      · repeat walk_at "v"
        refine w1 (some_nats _ true _ holt) ?_
        repeat walk_at "v"
        refine ⟨fun h2 => ?_, fun h2 => ?_⟩
        · have hLn : openL rows rows.length 0 ≠ [] := by intro e; rw [e] at h2; cases h2
          have hLp : 0 < (openL rows rows.length 0).length := List.length_pos_iff.mpr hLn
          have hLl := open_len rows rows.length 0
          repeat walk_at "v"
          rw [List.length_map]
          refine draw_at0 (cS1 _ _ hu1) hr hu1 (by omega) (by omega) (by omega) fun i3 u3 h30 h31 hu3 => ?_
          obtain ⟨j3, rfl⟩ : ∃ j3 : Nat, i3 = j3 := ⟨i3.toNat, by omega⟩
          have h32 : j3 < (openL rows rows.length 0).length := by omega
          refine w1 (a := .int ((openL rows rows.length 0)[j3] : Nat)) ?_ ?_
          · rw [ixO_sq (xs := (openL rows rows.length 0).map fun (k : Nat) => D.int k) rfl, List.getElem?_map, List.getElem?_eq_getElem h32]
            rfl
          · repeat walk_at "v"
            exact .inr ⟨_, rfl, _, rfl, .cancel ((openL rows rows.length 0)[j3] : Nat), u3, rfl, rfl, hu3.mono (by omega), .cancel (List.getElem_mem h32)⟩
        · repeat walk_at "v"
          exact .inl ⟨rfl, rfl, rfl⟩
      · refine ⟨fun h => (by cases h), fun _ => ?_⟩
        repeat walk_at "v"
        exact .inl ⟨rfl, rfl, rfl⟩
    rintro ρ1 S1 ⟨rfl, rfl⟩
    refine w_midr (fun ρ1 S1 => ρ1 = nr r rd rows.length sh (some (.lst ((openL rows rows.length 0).map fun (k : Nat) => .int k))) (some (.int way)) none none none none none none none none ∧ S1 = S.set r u1) ?_ ?_
    · (with_reducible refine w_ifs ?_)
      repeat walk_at "v"
      refine ⟨fun h => ?_, fun h => ?_⟩
      · repeat walk_at "v"
        refine w2_mid (fun d S1 => ∃ fs u', d = .tup (fs.map Fill.d) ∧ S1 = S.set r u' ∧ RdM u' (c + 60) ∧ (sh = true → fs = []) ∧ FillsBy rows 9 none 0 fs ∧ fs.length ≤ 2) ?_ ?_
        · (with_reducible refine w_if ?_)
          repeat walk_at "v"
          refine ⟨fun h => ?_, fun h => ?_⟩
          · repeat walk_at "v"
            exact ⟨[], u1, rfl, rfl, hu1.mono (by omega), (fun _ => rfl), .nil, Nat.zero_le _⟩
          · repeat walk_at "v"
            obtain ⟨fs, u', e, h1, h2, h3⟩ := hnf u1 (c + 1) 9 0 none hu1 (by omega)
            exact w2 e ⟨fs, u', rfl, rfl, h1.mono (by omega), (fun h4 => by rw [h] at h4; cases h4), h2, h3⟩
        · rintro d S1 ⟨fs, u', rfl, rfl, h1, h2, h3, h4⟩
          repeat walk_at "v"
          exact .inr ⟨_, rfl, _, rfl, .prints fs, u', rfl, rfl, h1, .prints (fun h5 => h2 (hsh.symm.trans h5)) h3 h4⟩
      · repeat walk_at "v"
        exact .inl ⟨rfl, rfl, rfl⟩
    rintro ρ1 S1 ⟨rfl, rfl⟩
    repeat walk_at "v"
    refine draw_at0 (cS1 _ _ hu1) hr hu1 (by omega) (by decide) (by decide) fun i2 u2 h20 h21 hu2 => ?_
    have hside : ∃ s : Str, (s = "buy" ∨ s = "sell") ∧ ixO (S.set r u2) (.lst [.str "buy", .str "sell"]) (.int i2) = some (.str s) := by
      have : i2 = 0 ∨ i2 = 1 := by omega
      rcases this with rfl | rfl
      · exact ⟨_, .inl rfl, pick_of (n := 0) _ (by decide)⟩
      · exact ⟨_, .inr rfl, pick_of (n := 1) _ (by decide)⟩
    obtain ⟨s, hs1, hs2⟩ := hside
    refine w1 hs2 ?_
    repeat walk_at "v"
    refine draw_at0 (cS1 _ _ hu2) hr hu2 (by omega) (by decide) (by decide) fun i3 u3 h30 h31 hu3 => ?_
    repeat walk_at "v"
    refine draw_at0 (cS1 _ _ hu3) hr hu3 (by omega) (by decide) (by decide) fun i4 u4 h40 h41 hu4 => ?_
    repeat walk_at "v"
    refine draw_at0 (cS1 _ _ hu4) hr hu4 (by omega) (by decide) (by decide) fun i5 u5 h50 h51 hu5 => ?_
    have hname : ∃ m : Str, (m = "ann" ∨ m = "bob" ∨ m = "cy") ∧ ixO (S.set r u5) (.lst [.str "ann", .str "bob", .str "cy"]) (.int i5) = some (.str m) := by
      have : i5 = 0 ∨ i5 = 1 ∨ i5 = 2 := by omega
      rcases this with rfl | rfl | rfl
      · exact ⟨_, .inl rfl, pick_of (n := 0) _ (by decide)⟩
      · exact ⟨_, .inr (.inl rfl), pick_of (n := 1) _ (by decide)⟩
      · exact ⟨_, .inr (.inr rfl), pick_of (n := 2) _ (by decide)⟩
    obtain ⟨m, hm1, hm2⟩ := hname
    refine w1 hm2 ?_
    repeat walk_at "v"
    refine ⟨_, _, rfl, ?_⟩
    repeat walk_at "v"
    refine w2_mid (fun d S1 => ∃ fs u', d = .tup (fs.map Fill.d) ∧ S1 = S.set r u' ∧ RdM u' (c + 60) ∧ (sh = true → fs = []) ∧ FillsBy rows (1 + i4) (some s) (8 + i3) fs ∧ fs.length ≤ 2) ?_ ?_
    · (with_reducible refine w_if ?_)
      repeat walk_at "v"
      refine ⟨fun h => ?_, fun h => ?_⟩
      · repeat walk_at "v"
        exact ⟨[], u5, rfl, rfl, hu5.mono (by omega), (fun _ => rfl), .nil, Nat.zero_le _⟩
      · repeat walk_at "v"
        obtain ⟨fs, u', e, h1, h2, h3⟩ := hnf u5 (c + 1 + 1 + 1 + 1 + 1) (1 + i4) (8 + i3) (some s) hu5 (by omega)
        exact w2 e ⟨fs, u', rfl, rfl, h1.mono (by omega), (fun h4 => by rw [h] at h4; cases h4), h2, h3⟩
    · rintro d S1 ⟨fs, u', rfl, rfl, h1, h2, h3, h4⟩
      repeat walk_at "v"
      exact ⟨.order m s (8 + i3) (1 + i4) fs, u', rfl, rfl, h1, .order hm1 hs1 (by omega) (by omega) (by omega) (by omega) (fun h5 => h2 (hsh.symm.trans h5)) h3 h4⟩
  obtain ⟨d, S', e, x, u', rfl, rfl, h1, h2⟩ := main
  refine ⟨x, u', ?_, h1, h2⟩
  exact settled_to (T := []) (by rw [List.append_nil]; exact e) (by rw [List.length_set]) (cS1 _ _ h1) (closed_row _ _)
end Gn
set_option Elab.async false
set_option linter.all false
set_option maxRecDepth 100000
set_option maxHeartbeats 8000000
namespace Gn
open PySem PySem.Spec PyProof.Rows L2 FS
local macro_rules | `(tactic| walk_at "w") => `(tactic| first | (with_reducible refine w_seq ?_) | (with_reducible refine w_set ?_) | (with_reducible refine w_ret ?_) | (with_reducible refine w_drop ?_) | (with_reducible refine w_nx ?_) | (with_reducible refine w_bin ?_) | (with_reducible refine w_test ?_) | (with_reducible refine w_andT ?_) | (with_reducible refine w_orT ?_) | (with_reducible refine w_notT ?_) | (with_reducible refine w_and ?_) | (with_reducible refine w_nil ?_) | (with_reducible refine w_cons ?_) | (with_reducible refine w_op ?_) | (with_reducible refine w_call0 ?_) | (with_reducible refine w_sl ?_) | (with_reducible refine w_nop ?_) | (with_reducible refine w_p ?_) | (with_reducible refine w_yes ?_) | (with_reducible refine w_c ?_) | (with_reducible refine w_un ?_) | (with_reducible refine w_par ?_) | (with_reducible refine w_asg ?_) | (with_reducible refine w_ifs ?_) | (with_reducible refine w_if ?_) | (with_reducible refine o_add ?_) | (with_reducible refine o_sub ?_) | (with_reducible refine o_lt ?_) | (with_reducible refine o_le ?_) | (with_reducible refine o_gt ?_) | (with_reducible refine o_ge ?_) | (with_reducible refine o_eqs ?_) | (with_reducible refine o_eqi ?_) | (with_reducible refine o_eqb ?_) | (with_reducible refine o_nes ?_) | (with_reducible refine o_nei ?_) | (with_reducible refine o_isnn ?_) | (with_reducible refine o_isni ?_) | (with_reducible refine o_isns ?_) | (with_reducible refine o_min ?_) | (with_reducible refine o_int ?_) | (with_reducible refine o_neg ?_) | (with_reducible refine o_lenT ?_) | (with_reducible refine o_lenL ?_) | (with_reducible refine sq_nx ?_) | (with_reducible refine sq_rt ?_) | ((with_reducible apply w_var); focus exact rfl) | (with_reducible refine w_tup ?_) | (with_reducible refine w_lst ?_) | (with_reducible refine w_new ?_) | ((with_reducible refine sz_and ?_ ?_); focus (simp only [List.length_cons, List.length_nil, sL] <;> omega)) | (with_reducible refine w_meth ?_) | (with_reducible refine w_lc ?_) | (with_reducible refine w_dput ?_) | (with_reducible refine w_dget ?_) | (with_reducible refine w_dget2 ?_) | ((with_reducible apply ex_rfl); focus exact rfl) | (with_reducible refine o_mod (by decide) ?_))
local macro_rules | `(tactic| walk_at "v") => `(tactic| first | (with_reducible refine w_seq ?_) | (with_reducible refine w_set ?_) | (with_reducible refine w_ret ?_) | (with_reducible refine w_drop ?_) | (with_reducible refine w_nx ?_) | (with_reducible refine w_bin ?_) | (with_reducible refine w_test ?_) | (with_reducible refine w_andT ?_) | (with_reducible refine w_orT ?_) | (with_reducible refine w_notT ?_) | (with_reducible refine w_and ?_) | (with_reducible refine w_nil ?_) | (with_reducible refine w_cons ?_) | (with_reducible refine w_op ?_) | (with_reducible refine w_call0 ?_) | (with_reducible refine w_sl ?_) | (with_reducible refine w_nop ?_) | (with_reducible refine w_p ?_) | (with_reducible refine w_yes ?_) | (with_reducible refine w_c ?_) | (with_reducible refine w_un ?_) | (with_reducible refine w_par ?_) | (with_reducible refine w_asg ?_) | (with_reducible refine o_add ?_) | (with_reducible refine o_sub ?_) | (with_reducible refine o_lt ?_) | (with_reducible refine o_le ?_) | (with_reducible refine o_gt ?_) | (with_reducible refine o_ge ?_) | (with_reducible refine o_eqs ?_) | (with_reducible refine o_eqi ?_) | (with_reducible refine o_eqb ?_) | (with_reducible refine o_nes ?_) | (with_reducible refine o_nei ?_) | (with_reducible refine o_isnn ?_) | (with_reducible refine o_isni ?_) | (with_reducible refine o_isns ?_) | (with_reducible refine o_min ?_) | (with_reducible refine o_int ?_) | (with_reducible refine o_neg ?_) | (with_reducible refine o_lenT ?_) | (with_reducible refine o_lenL ?_) | (with_reducible refine sq_nx ?_) | (with_reducible refine sq_rt ?_) | ((with_reducible apply w_var); focus exact rfl) | (with_reducible refine w_tup ?_) | (with_reducible refine w_lst ?_) | (with_reducible refine w_new ?_) | ((with_reducible refine sz_and ?_ ?_); focus (simp only [List.length_cons, List.length_nil, sL] <;> omega)) | (with_reducible refine w_meth ?_) | (with_reducible refine w_lc ?_) | (with_reducible refine w_dput ?_) | (with_reducible refine w_dget ?_) | (with_reducible refine w_dget2 ?_) | ((with_reducible apply ex_rfl); focus exact rfl) | (with_reducible refine o_mod (by decide) ?_))
local macro_rules | `(tactic| walk_at "u") => `(tactic| first | (with_reducible refine w_seq ?_) | (with_reducible refine w_set ?_) | (with_reducible refine w_ret ?_) | (with_reducible refine w_drop ?_) | (with_reducible refine w_nx ?_) | (with_reducible refine w_bin ?_) | (with_reducible refine w_test ?_) | (with_reducible refine w_andT ?_) | (with_reducible refine w_orT ?_) | (with_reducible refine w_notT ?_) | (with_reducible refine w_and ?_) | (with_reducible refine w_nil ?_) | (with_reducible refine w_cons ?_) | (with_reducible refine w_op ?_) | (with_reducible refine w_call0 ?_) | (with_reducible refine w_sl ?_) | (with_reducible refine w_nop ?_) | (with_reducible refine w_p ?_) | (with_reducible refine w_yes ?_) | (with_reducible refine w_c ?_) | (with_reducible refine w_un ?_) | (with_reducible refine w_par ?_) | (with_reducible refine w_asg ?_) | (with_reducible refine o_add ?_) | (with_reducible refine o_sub ?_) | (with_reducible refine o_lt ?_) | (with_reducible refine o_le ?_) | (with_reducible refine o_gt ?_) | (with_reducible refine o_ge ?_) | (with_reducible refine o_eqs ?_) | (with_reducible refine o_eqi ?_) | (with_reducible refine o_eqb ?_) | (with_reducible refine o_nes ?_) | (with_reducible refine o_nei ?_) | (with_reducible refine o_isnn ?_) | (with_reducible refine o_isni ?_) | (with_reducible refine o_isns ?_) | (with_reducible refine o_min ?_) | (with_reducible refine o_int ?_) | (with_reducible refine o_neg ?_) | (with_reducible refine o_lenT ?_) | (with_reducible refine o_lenL ?_) | (with_reducible refine sq_nx ?_) | (with_reducible refine sq_rt ?_) | ((with_reducible apply w_var); focus exact rfl) | (with_reducible refine w_tup ?_) | (with_reducible refine w_lst ?_) | (with_reducible refine w_new ?_) | ((with_reducible refine sz_and ?_ ?_); focus (simp only [List.length_cons, List.length_nil, sL] <;> omega)) | (with_reducible refine w_meth ?_)  | (with_reducible refine w_dput ?_) | (with_reducible refine w_dget ?_) | (with_reducible refine w_dget2 ?_) | ((with_reducible apply ex_rfl); focus exact rfl) | (with_reducible refine o_mod (by decide) ?_))

theorem run_random_rows {r c most : Nat} {u : MO} {S : Sto} (cS : Clo S) (hu : S[r]? = some u) (hR : RdM u c) (hm : most ≤ 39) (hc : c + 2 + 60 * most ≤ 100000) :
    ∃ rows u', F__law_random_rows [.ref r, .int most] S = some (.lst (rows.map Row.d), S.set r u') ∧ RdM u' (c + 2 + 60 * most) ∧ RowsBy rows ∧ rows.length ≤ most + 1 := by
  have hr : r < S.length := (List.getElem?_eq_some_iff.mp hu).1
  have cS1 : ∀ (v : MO) (n : Nat), RdM v n → Clo (S.set r v) := fun v n h => cS.set h.closed
  have cS2 : ∀ (v : MO) (n : Nat) (rows : List Row), RdM v n → Clo (S.set r v ++ [.lst (rows.map Row.d)]) := fun v n rows h => (cS1 v n h).app (closed_rows _ _)
  have main : W2 (runFn 2 4 b__law_random_rows [.ref r, .int most] S) fun d S' => ∃ rows u', d = .ref S.length ∧ S' = S.set r u' ++ [.lst (rows.map Row.d)] ∧ RdM u' (c + 2 + 60 * most) ∧ RowsBy rows ∧ rows.length ≤ most + 1 := by
    refine w_run rfl ?_
    unfold b__law_random_rows
    refine w_mid (fun ρ1 S1 => ∃ (rows : List Row) (u1 : MO), ρ1 = [some (.ref r), some (.int most), some (.ref S.length), none] ∧ S1 = S.set r u1 ++ [.lst (rows.map Row.d)] ∧ RdM u1 (c + 1) ∧ RowsBy rows ∧ rows.length ≤ 1) ?_ ?_
    · (with_reducible refine w_set ?_)
      (with_reducible refine w_if ?_)
      repeat walk_at "v"
      obtain ⟨i1, u1, e1, hu1, h10, h11⟩ := run_draw cS hu hR (by omega) (show (0 : Int) < 3 by decide) (by decide)
      refine w2 e1 ?_
      repeat walk_at "v"
      refine ⟨fun h => ?_, fun h => ?_⟩
      · repeat walk_at "v"
        exact ⟨rfl, [.closed], u1, by rw [List.length_set]; rfl, rfl, hu1, .shut, Nat.le_refl _⟩
      · repeat walk_at "v"
        exact ⟨rfl, [], u1, by rw [List.length_set]; rfl, rfl, hu1, .nil, Nat.zero_le _⟩
    rintro ρ1 S1 ⟨rows0, u1, rfl, rfl, hu1, hb0, hl0⟩
    (with_reducible refine w_seq ?_)
    refine w_forq (fun n S1 => n ≤ most ∧ ∃ u', S1 = S.set r u' ++ [.lst (rows0.map Row.d)] ∧ RdM u' (c + 2))
      (fun n k ρ S1 => n ≤ most ∧ ∃ x3 u' rows, ρ = [some (.ref r), some (.int most), some (.ref S.length), x3] ∧ S1 = S.set r u' ++ [.lst (rows.map Row.d)] ∧ RdM u' (c + 2 + 60 * k) ∧ RowsBy rows ∧ rows.length ≤ k + 1) ?_ ?_ ?_ ?_
    · repeat walk_at "v"
      refine draw_at (cS2 _ _ _ hu1) hr hu1 (by omega) (by omega) (by omega) fun i u' h0 h1 hu' => ?_
      repeat walk_at "v"
      exact ⟨i.toNat, by rw [Int.toNat_of_nonneg h0], by omega, by omega, u', rfl, hu'⟩
    · rintro n S1 ⟨hn, u', rfl, hu'⟩
      exact ⟨hn, _, u', rows0, rfl, rfl, hu', hb0, by omega⟩
    · rintro n k hkn ρ S1 ⟨hn, x3, u2, rows, rfl, rfl, hu2, hb, hl⟩
      refine ⟨_, rfl, ?_⟩
      repeat walk_at "v"
      refine ⟨isL_at own_at, ?_⟩
      repeat walk_at "v"
      obtain ⟨x, u3, e3, hu3, hx⟩ := run_new_row (S := S.set r u2 ++ [.lst (rows.map Row.d)]) (rd := .ref S.length) (cS2 _ _ _ hu2) (get_app hr u2) hu2 (hb.gr (by omega)) (by omega) (by unfold lmOf; simp only [own_at]) (by omega)
      rw [set_app hr] at e3
      refine w2 e3 ?_
      repeat walk_at "v"
      refine w2 (app_to own_at ?_) ?_
      · rw [List.length_map, sL]; omega
      · rw [own_set, show rows.map Row.d ++ [x.d] = (rows ++ [x]).map Row.d by rw [List.map_append]; rfl]
        exact ⟨.inl rfl, hn, _, u3, rows ++ [x], rfl, rfl, hu3.mono (by omega), .snoc hb hx, by rw [List.length_append, List.length_singleton]; omega⟩
    · rintro n ρ' S' ⟨hn, x3, u2, rows, rfl, rfl, hu2, hb, hl⟩
      (with_reducible refine sq_nx ?_)
      repeat walk_at "v"
      exact ⟨rows, u2, rfl, rfl, hu2.mono (by omega), hb, by omega⟩
  obtain ⟨d, S', e, rows, u', rfl, rfl, h1, h2, h3⟩ := main
  refine ⟨rows, u', ?_, h1, h2, h3⟩
  exact settled_lst e (by rw [List.length_set]) (cS1 _ _ h1) (Nat.le_refl _) own_at (closed_rows _ _)
structure Rec where
  rule : Str
  rows : List Row
def Rec.d (g : Rec) : D := .tup [.str g.rule, .tup (g.rows.map Row.d)]
def Rule (s : Str) : Prop := s = "time" ∨ s = "late" ∨ s = "price"
theorem run_random_record {r c most : Nat} {u : MO} {S : Sto} (cS : Clo S) (hu : S[r]? = some u) (hR : RdM u c) (hm : most ≤ 39) (hc : c + 3 + 60 * most ≤ 100000) :
    ∃ g u', F__law_random_record [.ref r, .int most] S = some (Rec.d g, S.set r u') ∧ RdM u' (c + 3 + 60 * most) ∧ RowsBy g.rows ∧ g.rows.length ≤ most + 1 ∧ Rule g.rule := by
  have cS1 : ∀ (v : MO) (n : Nat), RdM v n → Clo (S.set r v) := fun v n h => cS.set h.closed
  have main : W2 (runFn 2 2 b__law_random_record [.ref r, .int most] S) fun d S' => ∃ g u', d = Rec.d g ∧ S' = S.set r u' ∧ RdM u' (c + 3 + 60 * most) ∧ RowsBy g.rows ∧ g.rows.length ≤ most + 1 ∧ Rule g.rule := by
    refine w_run rfl ?_
    unfold b__law_random_record
    repeat walk_at "v"
    obtain ⟨i1, u1, e1, hu1, h10, h11⟩ := run_draw cS hu hR (by omega) (show (0 : Int) < 3 by decide) (by decide)
    refine w2 e1 ?_
    have hname : ∃ m : Str, Rule m ∧ ixO (S.set r u1) (.lst [.str "time", .str "late", .str "price"]) (.int i1) = some (.str m) := by
      have : i1 = 0 ∨ i1 = 1 ∨ i1 = 2 := by omega
      rcases this with rfl | rfl | rfl
      · exact ⟨_, .inl rfl, pick_of (n := 0) _ (by decide)⟩
      · exact ⟨_, .inr (.inl rfl), pick_of (n := 1) _ (by decide)⟩
      · exact ⟨_, .inr (.inr rfl), pick_of (n := 2) _ (by decide)⟩
    obtain ⟨m, hm1, hm2⟩ := hname
    repeat walk_at "v"
    refine w1 hm2 ?_
    repeat walk_at "v"
    obtain ⟨rows, u2, e2, hu2, h20, h21⟩ := run_random_rows (S := S.set r u1) (cS1 _ _ hu1) (set_at hu) hu1 hm (by omega)
    rw [List.set_set] at e2
    refine w2 e2 ?_
    repeat walk_at "v"
    refine w1 (tupleO_sq rfl) ?_
    repeat walk_at "v"
    exact ⟨⟨m, rows⟩, u2, rfl, rfl, hu2.mono (by omega), h20, h21, hm1⟩
  obtain ⟨d, S', e, g, u', rfl, rfl, h1, h2, h3, h4⟩ := main
  refine ⟨g, u', ?_, h1, h2, h3, h4⟩
  exact settled_to (T := []) (by rw [List.append_nil]; exact e) (by rw [List.length_set]) (cS1 _ _ h1) (by simp only [Rec.d, FS.closed, closedL, closed_rows, Bool.and_self])
theorem run_reader {S : Sto} (ns : List Int) : ∃ u, F__law_reader [.scr (ns.map .int)] S = some (.ref S.length, S ++ [u]) ∧ RdM u 0 := by
  have h : W2 (runFn 1 1 b__law_reader [.scr (ns.map .int)] S) fun d S' => ∃ u, d = .ref S.length ∧ S' = S ++ [u] ∧ RdM u 0 := by
    refine w_run rfl ?_
    unfold b__law_reader
    (with_reducible refine w_ret ?_)
    have e1 : cPairs [((cC (.str "cells")), (cOp listO (cCons (cSl (cVar 0) cNoP (cP (cC (.int 63)))) cNil))), ((cC (.str "spot")), (cC (.int 0))), ((cC (.str "rest")), (cC (.int 0))), ((cC (.str "calls")), (cC (.int 0)))] (List.map some [D.scr (ns.map .int)] ++ List.replicate (1 - 1) none) S = some ([(.inr "cells", .lst ((ns.take 63).map .int)), (.inr "spot", .int 0), (.inr "rest", .int 0), (.inr "calls", .int 0)], S) := by
      have e2 : (FS.cutD (ns.map D.int) none (some ((63 : Nat) : Int))) = (ns.take 63).map .int := by rw [cut_to, List.map_take]
      rw [← e2]
      rfl
    refine w2 (a := .ref S.length) (S := S ++ [.dct (rk (.lst ((ns.take 63).map .int)) 0 0 0)]) ?_ ⟨_, rfl, _, rfl, rfl, ns.take 63, 0, 0, 0, rfl, Int.le_refl _, Nat.le_refl _⟩
    unfold cDisp
    rw [e1]
    dsimp only
    rw [if_pos (by simp only [List.length_cons, List.length_nil]; decide)]
    simp [mergeD, putD, rk, ks_cells_spot, ks_cells_rest, ks_cells_calls, ks_spot_cells, ks_spot_rest, ks_spot_calls, ks_rest_cells, ks_rest_spot, ks_rest_calls, ks_calls_cells, ks_calls_spot, ks_calls_rest]
  obtain ⟨d, S', e, u, rfl, rfl, h⟩ := h
  exact ⟨u, e, h⟩
end Gn
set_option Elab.async false
set_option linter.all false
set_option maxRecDepth 100000
set_option maxHeartbeats 4000000
namespace Gn
open PySem PySem.Spec PyProof.Rows L2 FS
/-! ### what the program reckons of rows -/
def nameOf : Row → Str
  | .order m _ _ _ _ => m
  | _ => .empty
def lotsL (n t : Int) (r : Row) (fs : List Fill) : Int :=
  if isCall r = true then (((callPs r).filter fun q => decide (q.1 = n)).map (·.2)).sum
  else ((fs.filter fun f => decide (f.n = some n) || decide (t = n)).map (·.z)).sum
def befL (rows : List Row) (n t i : Nat) : Int :=
  ((List.range t).map fun (r : Nat) => lotsL n r (rowAt rows r) (fillsOf (rowAt rows r))).sum + (if isCall (rowAt rows t) = true then 0 else lotsL n t (rowAt rows t) ((fillsOf (rowAt rows t)).take i))
def rstL (rows : List Row) (n t i : Nat) : Int := sizeOf (rowAt rows n) - befL rows n t i
def opnL (rows : List Row) (n t i : Nat) : Bool := decide (n < t) && isOrd (rowAt rows n) && !(goneL rows t).contains (n : Int) && decide (0 < rstL rows n t i)
def shtL (rows : List Row) (t : Nat) : Bool := decide (0 < t) && isClosed (rowAt rows 0) && (List.range t).all fun s => !isCall (rowAt rows s)
def withinL (s : Str) (lim p : Int) : Bool := if (s == ("buy" : Str)) = true then decide (p ≤ lim) else decide (lim ≤ p)
def Nm (m : Str) : Prop := m = "ann" ∨ m = "bob" ∨ m = "cy" ∨ m = "dee" ∨ m = "eve"
structure FillOk (rows : List Row) (t i : Nat) (f : Fill) : Prop where
  p : 1 ≤ f.p
  z : 1 ≤ f.z
  own : ∀ n, f.n = some n → ∃ k : Nat, n = k ∧ opnL rows k t i = true ∧ priceOf (rowAt rows k) = f.p ∧ f.z ≤ rstL rows k t i
structure OwnOk (rows : List Row) (s : Str) (p z : Int) (fs : List Fill) (i : Nat) (f : Fill) : Prop where
  side : ∀ k : Nat, f.n = some (k : Int) → (sideOf (rowAt rows k) == s) = false
  within : withinL s p f.p = true
  fit : f.z ≤ z - zsum (fs.take i)
structure PairOk (rows : List Row) (t : Nat) (p : Option Int) (q : Int × Int) : Prop where
  own : ∃ k : Nat, q.1 = k ∧ opnL rows k t 0 = true ∧ q.2 ≤ rstL rows k t 0 ∧ ∀ i, p = some i → withinL (sideOf (rowAt rows k)) (priceOf (rowAt rows k)) i = true
  one : 1 ≤ q.2
inductive RowOk (rows : List Row) (t : Nat) : Row → Prop
  | order {m s : Str} {p z : Int} {fs : List Fill} (hm : Nm m) (hs : s = "buy" ∨ s = "sell") (hp : 1 ≤ p) (hz : 1 ≤ z) (hc : shtL rows t = true → fs = []) (hf : ∀ i f, fs[i]? = some f → FillOk rows t i f) (ho : ∀ i f, fs[i]? = some f → OwnOk rows s p z fs i f) : RowOk rows t (.order m s p z fs)
  | cancel {k : Nat} (h : opnL rows k t 0 = true) : RowOk rows t (.cancel k)
  | prints {fs} (hc : shtL rows t = true → fs = []) (hf : ∀ i f, fs[i]? = some f → FillOk rows t i f) : RowOk rows t (.prints fs)
  | closed (h : t = 0) : RowOk rows t .closed
  | call {p ps} (hs : shtL rows t = true) (hp : (∃ i, p = some i ∧ 1 ≤ i) ∨ (p = none ∧ ps = [])) (hps : ps.Pairwise fun a b => a.1 < b.1) (hq : ∀ q ∈ ps, PairOk rows t p q) : RowOk rows t (.call p ps)
structure Good (rows : List Row) : Prop where
  at_ : ∀ t r, rows[t]? = some r → RowOk rows t r
  ok : ∀ r ∈ rows, ROk r
  few : rows.length ≤ 31
/-! ### rows by their number -/
theorem rowAt_big {rows : List Row} {t : Nat} (h : rows.length ≤ t) : rowAt rows t = .closed := by
  unfold rowAt
  rw [List.getElem?_eq_none h]
  rfl
theorem rowAt_ord {rows : List Row} {k : Nat} (h : isOrd (rowAt rows k) = true) : k < rows.length := by
  by_cases hk : k < rows.length
  · exact hk
  · rw [rowAt_big (by omega)] at h; cases h
theorem rowAt_some {rows : List Row} {t : Nat} {r : Row} (h : rows[t]? = some r) : rowAt rows t = r := by
  unfold rowAt
  rw [h]
  rfl
theorem take_rows {rows : List Row} {t : Nat} (h : t ≤ rows.length) : rows.take t = (List.range t).map (rowAt rows) := by
  refine List.ext_getElem? fun s => ?_
  rw [List.getElem?_take, List.getElem?_map]
  by_cases hs : s < t
  · rw [if_pos hs, List.getElem?_range hs, rowAt_get (by omega)]
    rfl
  · rw [if_neg hs, List.getElem?_eq_none (l := List.range t) (by rw [List.length_range]; omega)]
    rfl
theorem gone_iff {rows : List Row} {t : Nat} {n : Int} : (goneL rows t).contains n = true ↔ ∃ s, s < t ∧ rowAt rows s = .cancel n := by
  unfold goneL
  rw [List.contains_iff_mem, List.mem_filterMap]
  constructor
  · rintro ⟨r, hr, e⟩
    obtain ⟨s, hs, e2⟩ := List.getElem_of_mem hr
    rw [List.length_take] at hs
    refine ⟨s, by omega, ?_⟩
    rw [List.getElem_take] at e2
    rw [rowAt_some (r := r) (by rw [List.getElem?_eq_getElem (by omega), e2])]
    cases r <;> simp only [goneOf] at e <;> first | (cases e; rfl) | cases e
  · rintro ⟨s, hs, e⟩
    have hl : s < rows.length := by
      by_cases hl : s < rows.length
      · exact hl
      · rw [rowAt_big (by omega)] at e; cases e
    refine ⟨.cancel n, ?_, rfl⟩
    refine List.mem_of_getElem? (i := s) ?_
    rw [List.getElem?_take, if_pos hs, rowAt_get hl, e]
theorem opn_iff {rows : List Row} {n t i : Nat} : opnL rows n t i = true ↔ n < t ∧ isOrd (rowAt rows n) = true ∧ (¬ ∃ s, s < t ∧ rowAt rows s = .cancel n) ∧ 0 < rstL rows n t i := by
  unfold opnL
  simp only [Bool.and_eq_true, decide_eq_true_eq, Bool.not_eq_true', ← Bool.not_eq_true, gone_iff, and_assoc]
theorem sht_iff {rows : List Row} {t : Nat} : shtL rows t = true ↔ 0 < t ∧ isClosed (rowAt rows 0) = true ∧ ∀ s, s < t → isCall (rowAt rows s) = false := by
  unfold shtL
  simp only [Bool.and_eq_true, decide_eq_true_eq, List.all_eq_true, List.mem_range, Bool.not_eq_true', and_assoc]
theorem bool_iff {a b : Bool} (h : a = true ↔ b = true) : a = b := by
  cases a <;> cases b <;> simp_all
/-! ### what members see -/
def stF (own : Int → Bool) (f : Fill) : Fill := ⟨f.p, f.z, f.n.filter own⟩
def seenR (own : Int → Bool) (t : Nat) : Row → Row
  | .order m s p z fs => if own t = true then .order m s p z (fs.map (stF own)) else .prints (fs.map (stF own))
  | .cancel n => if own n = true then .cancel n else .prints []
  | .prints fs => .prints (fs.map (stF own))
  | .closed => .closed
  | .call p ps => .call p (ps.filter fun q => own q.1)
def seenL (own : Int → Bool) (rows : List Row) : List Row := rows.zipIdx.map fun q => seenR own q.2 q.1
section
variable {own : Int → Bool} {rows : List Row} {r : Row} {t i k : Nat}
theorem seen_len : (seenL own rows).length = rows.length := by
  unfold seenL
  rw [List.length_map, List.length_zipIdx]
theorem seen_get : (seenL own rows)[t]? = rows[t]?.map (seenR own t) := by
  unfold seenL
  rw [List.getElem?_map, List.getElem?_zipIdx]
  cases rows[t]? <;> simp
theorem seen_at : rowAt (seenL own rows) t = seenR own t (rowAt rows t) := by
  unfold rowAt
  rw [seen_get]
  cases rows[t]? <;> rfl
theorem seen_isCall : isCall (seenR own t r) = isCall r := by
  cases r <;> simp only [seenR] <;> (try split) <;> rfl
theorem seen_isClosed : isClosed (seenR own t r) = isClosed r := by
  cases r <;> simp only [seenR] <;> (try split) <;> rfl
theorem seen_fills : fillsOf (seenR own t r) = (fillsOf r).map (stF own) := by
  cases r <;> simp only [seenR] <;> (try split) <;> rfl
theorem seen_isOrd : isOrd (seenR own t r) = (isOrd r && own t) := by
  cases r <;> simp only [seenR] <;> (try split) <;> simp_all [isOrd]
theorem seen_callPs : callPs (seenR own t r) = (callPs r).filter fun q => own q.1 := by
  cases r <;> simp only [seenR] <;> (try split) <;> rfl
theorem seen_size (h : own t = true) : sizeOf (seenR own t r) = sizeOf r := by
  cases r <;> simp only [seenR, h, if_true] <;> (try split) <;> rfl
theorem seen_price (h : own t = true) : priceOf (seenR own t r) = priceOf r := by
  cases r <;> simp only [seenR, h, if_true] <;> (try split) <;> rfl
theorem seen_side (h : own t = true) : sideOf (seenR own t r) = sideOf r := by
  cases r <;> simp only [seenR, h, if_true] <;> (try split) <;> rfl
theorem seen_name (h : own t = true) : nameOf (seenR own t r) = nameOf r := by
  cases r <;> simp only [seenR, h, if_true] <;> (try split) <;> rfl
theorem seen_cancel {n : Int} : seenR own t r = .cancel n ↔ r = .cancel n ∧ own n = true := by
  cases r with
  | cancel m =>
    simp only [seenR]
    split
    · rename_i h
      constructor
      · intro e; cases e; exact ⟨rfl, h⟩
      · exact fun e => e.1
    · rename_i h
      constructor
      · intro e; cases e
      · rintro ⟨e, h2⟩; cases e; exact absurd h2 h
  | order => simp only [seenR]; split <;> exact ⟨(fun e => by cases e), fun e => by cases e.1⟩
  | prints => exact ⟨(fun e => by cases e), fun e => by cases e.1⟩
  | closed => exact ⟨(fun e => by cases e), fun e => by cases e.1⟩
  | call => exact ⟨(fun e => by cases e), fun e => by cases e.1⟩
theorem stF_n {f : Fill} {n : Int} : (stF own f).n = some n ↔ f.n = some n ∧ own n = true := by
  unfold stF
  rw [Option.filter_eq_some_iff]
theorem seen_lots {n t : Int} {s : Nat} {fs : List Fill} (h : own n = true) : lotsL n t (seenR own s r) (fs.map (stF own)) = lotsL n t r fs := by
  unfold lotsL
  rw [seen_isCall, seen_callPs]
  split
  · rw [List.filter_filter]
    congr 2
    refine List.filter_congr fun q hq => ?_
    by_cases e : q.1 = n
    · subst e; simp [h]
    · simp [e]
  · rw [List.filter_map, List.map_map]
    congr 2
    refine List.filter_congr fun f hf => ?_
    simp only [Function.comp]
    congr 1
    refine decide_eq_decide.mpr ?_
    rw [stF_n]
    exact ⟨fun e => e.1, fun e => ⟨e, h⟩⟩
theorem seen_bef (h : own k = true) : befL (seenL own rows) k t i = befL rows k t i := by
  unfold befL
  congr 1
  · congr 1
    refine List.map_congr_left fun s hs => ?_
    rw [seen_at, seen_fills, seen_lots h]
  · rw [seen_at, seen_isCall, seen_fills, ← List.map_take, seen_lots h]
theorem seen_rst (h : own k = true) : rstL (seenL own rows) k t i = rstL rows k t i := by
  unfold rstL
  rw [seen_bef h, seen_at, seen_size h]
theorem seen_opn (h : own k = true) : opnL (seenL own rows) k t i = opnL rows k t i := by
  refine bool_iff ?_
  rw [opn_iff, opn_iff, seen_rst h, seen_at, seen_isOrd, h, Bool.and_true]
  have : (∃ s, s < t ∧ rowAt (seenL own rows) s = .cancel k) ↔ ∃ s, s < t ∧ rowAt rows s = .cancel k := by
    refine exists_congr fun s => and_congr_right fun _ => ?_
    rw [seen_at, seen_cancel]
    exact ⟨fun e => e.1, fun e => ⟨e, h⟩⟩
  rw [this]
theorem seen_sht : shtL (seenL own rows) t = shtL rows t := by
  refine bool_iff ?_
  rw [sht_iff, sht_iff, seen_at, seen_isClosed]
  simp only [seen_at, seen_isCall]
theorem seen_zsum (fs : List Fill) : zsum (fs.map (stF own)) = zsum fs := by
  unfold zsum
  rw [List.map_map]
  rfl
theorem seen_fillOk {f : Fill} (h : FillOk rows t i f) : FillOk (seenL own rows) t i (stF own f) := by
  refine ⟨h.p, h.z, fun n hn => ?_⟩
  rw [stF_n] at hn
  obtain ⟨k, rfl, h1, h2, h3⟩ := h.own n hn.1
  refine ⟨k, rfl, ?_, ?_, ?_⟩
  · rw [seen_opn hn.2]; exact h1
  · rw [seen_at, seen_price hn.2]; exact h2
  · rw [seen_rst hn.2]; exact h3
theorem seen_ownOk {s : Str} {p z : Int} {fs : List Fill} {f : Fill} (h : OwnOk rows s p z fs i f) : OwnOk (seenL own rows) s p z (fs.map (stF own)) i (stF own f) := by
  refine ⟨fun k hk => ?_, h.within, ?_⟩
  · rw [stF_n] at hk
    rw [seen_at, seen_side hk.2]
    exact h.side k hk.1
  · rw [← List.map_take, seen_zsum]
    exact h.fit
theorem map_nil_of {fs : List Fill} (h : fs = []) : fs.map (stF own) = [] := by subst h; rfl
theorem map_at {fs : List Fill} {P : Fill → Prop} {g : Fill} (e : (fs.map (stF own))[i]? = some g) (h : ∀ f, fs[i]? = some f → P (stF own f)) : P g := by
  rw [List.getElem?_map] at e
  obtain ⟨f, e1, rfl⟩ := Option.map_eq_some_iff.mp e
  exact h f e1
theorem seen_rowOk (h : RowOk rows t r) : RowOk (seenL own rows) t (seenR own t r) := by
  cases h with
  | order hm hs hp hz hc hf ho =>
    simp only [seenR]
    split
    · exact .order hm hs hp hz (fun h => map_nil_of (hc (seen_sht ▸ h))) (fun i g e => map_at e fun f hf1 => seen_fillOk (hf i f hf1)) (fun i g e => map_at e fun f hf1 => seen_ownOk (ho i f hf1))
    · exact .prints (fun h => map_nil_of (hc (seen_sht ▸ h))) (fun i g e => map_at e fun f hf1 => seen_fillOk (hf i f hf1))
  | cancel h =>
    simp only [seenR]
    split
    · rename_i ho
      exact .cancel (by rw [seen_opn ho]; exact h)
    · exact .prints (fun _ => rfl) (fun i f e => by simp at e)
  | prints hc hf => exact .prints (fun h => map_nil_of (hc (seen_sht ▸ h))) (fun i g e => map_at e fun f hf1 => seen_fillOk (hf i f hf1))
  | closed h => exact .closed h
  | call hs hp hps hq =>
    refine .call (by rw [seen_sht]; exact hs) ?_ (hps.sublist List.filter_sublist) fun q hq1 => ?_
    · rcases hp with hp | ⟨hp, rfl⟩
      · exact .inl hp
      · exact .inr ⟨hp, rfl⟩
    · obtain ⟨hq2, hq3⟩ := List.mem_filter.mp hq1
      obtain ⟨⟨k, e, h1, h2, h3⟩, h4⟩ := hq q hq2
      rw [e] at hq3
      refine ⟨⟨k, e, ?_, ?_, fun i hi => ?_⟩, h4⟩
      · rw [seen_opn hq3]; exact h1
      · rw [seen_rst hq3]; exact h2
      · rw [seen_at, seen_side hq3, seen_price hq3]; exact h3 i hi
theorem seen_fok {f : Fill} (h : FOk f) : FOk (stF own f) := ⟨h.p, h.z, fun i hi => h.n i (stF_n.mp hi).1⟩
theorem seen_foks {fs : List Fill} (h : ∀ f ∈ fs, FOk f) : ∀ f ∈ fs.map (stF own), FOk f := by
  intro f hf
  obtain ⟨g, hg, rfl⟩ := List.mem_map.mp hf
  exact seen_fok (h g hg)
theorem seen_rok (h : ROk r) : ROk (seenR own t r) := by
  cases h with
  | order h1 h2 h3 h4 h5 h6 =>
    simp only [seenR]
    split
    · exact .order h1 h2 h3 h4 (seen_foks h5) (by rw [List.length_map]; exact h6)
    · exact .prints (seen_foks h5) (by rw [List.length_map]; exact h6)
  | prints h5 h6 => exact .prints (seen_foks h5) (by rw [List.length_map]; exact h6)
  | call h1 h5 h6 => exact .call h1 (fun q hq => h5 q (List.mem_filter.mp hq).1) (Nat.le_trans (List.length_filter_le _ _) h6)
  | cancel h =>
    simp only [seenR]
    split
    · exact .cancel h
    · exact .prints (fun f hf => by cases hf) (Nat.zero_le _)
  | closed => exact .closed
theorem Good.seen (h : Good rows) (own : Int → Bool) : Good (seenL own rows) := by
  refine ⟨fun t r e => ?_, fun r hr => ?_, by rw [seen_len]; exact h.few⟩
  · rw [seen_get] at e
    obtain ⟨r0, e1, rfl⟩ := Option.map_eq_some_iff.mp e
    exact seen_rowOk (h.at_ t r0 e1)
  · obtain ⟨q, hq, rfl⟩ := List.mem_map.mp hr
    have hm : q.1 ∈ rows := by
      obtain ⟨s, hs, e⟩ := List.getElem_of_mem hq
      rw [List.getElem_zipIdx] at e
      rw [← e]
      exact List.getElem_mem _
    exact seen_rok (h.ok _ hm)
/-! ### seen twice -/
theorem stF_stF {own1 own2 : Int → Bool} (h : ∀ n, own2 n = true → own1 n = true) (f : Fill) : stF own2 (stF own1 f) = stF own2 f := by
  unfold stF
  congr 1
  rw [Option.filter_filter]
  congr 1
  funext n
  cases e : own2 n
  · rw [Bool.and_false]
  · rw [h n e]; rfl
theorem stF_map {own1 own2 : Int → Bool} (h : ∀ n, own2 n = true → own1 n = true) (fs : List Fill) : (fs.map (stF own1)).map (stF own2) = fs.map (stF own2) := by
  rw [List.map_map]
  exact List.map_congr_left fun f _ => stF_stF h f
theorem seenR_seenR {own1 own2 : Int → Bool} (h : ∀ n, own2 n = true → own1 n = true) : seenR own2 t (seenR own1 t r) = seenR own2 t r := by
  cases r with
  | order m s p z fs =>
    simp only [seenR]
    by_cases h2 : own2 t = true
    · rw [if_pos (h _ h2), if_pos h2]
      simp only [seenR]
      rw [if_pos h2, stF_map h]
    · rw [if_neg h2]
      by_cases h1 : own1 t = true
      · rw [if_pos h1]
        simp only [seenR]
        rw [if_neg h2, stF_map h]
      · rw [if_neg h1]
        simp only [seenR]
        rw [stF_map h]
  | cancel n =>
    simp only [seenR]
    by_cases h2 : own2 n = true
    · rw [if_pos (h _ h2), if_pos h2]
      simp only [seenR]
      rw [if_pos h2]
    · rw [if_neg h2]
      by_cases h1 : own1 n = true
      · rw [if_pos h1]
        simp only [seenR]
        rw [if_neg h2]
      · rw [if_neg h1]
        rfl
  | prints fs => simp only [seenR]; rw [stF_map h]
  | closed => rfl
  | call p ps =>
    simp only [seenR]
    rw [List.filter_filter]
    congr 1
    refine List.filter_congr fun q _ => ?_
    cases e : own2 q.1
    · rfl
    · rw [h _ e]; rfl
theorem seenL_seenL {own1 own2 : Int → Bool} (h : ∀ n, own2 n = true → own1 n = true) : seenL own2 (seenL own1 rows) = seenL own2 rows := by
  refine List.ext_getElem? fun s => ?_
  rw [seen_get, seen_get, seen_get, Option.map_map]
  congr 1
  funext r
  exact seenR_seenR h
/-! ### who speaks of whom -/
theorem FillOk.ref {f : Fill} (h : FillOk rows t i f) {n : Int} (e : f.n = some n) : ∃ k : Nat, n = k ∧ k < t ∧ isOrd (rowAt rows k) = true := by
  obtain ⟨k, e2, h1, _⟩ := h.own n e
  rw [opn_iff] at h1
  exact ⟨k, e2, h1.1, h1.2.1⟩
theorem stF_same {fs : List Fill} (h : ∀ i f, fs[i]? = some f → FillOk rows t i f) {own2 : Int → Bool} (ho : ∀ k : Nat, k < t → isOrd (rowAt rows k) = true → own k = own2 k) : fs.map (stF own) = fs.map (stF own2) := by
  refine List.map_congr_left fun f hf => ?_
  obtain ⟨i, hi, e⟩ := List.getElem_of_mem hf
  have hk := h i f (by rw [List.getElem?_eq_getElem hi, e])
  unfold stF
  congr 1
  cases e2 : f.n with
  | none => rfl
  | some n =>
    obtain ⟨k, rfl, h1, h2⟩ := hk.ref e2
    simp only [Option.filter]
    rw [ho k h1 h2]
theorem seenR_same (h : RowOk rows t r) (hr : rowAt rows t = r) {own2 : Int → Bool} (ho : ∀ k : Nat, k ≤ t → isOrd (rowAt rows k) = true → own k = own2 k) : seenR own t r = seenR own2 t r := by
  have ho' : ∀ k : Nat, k < t → isOrd (rowAt rows k) = true → own k = own2 k := fun k hk => ho k (by omega)
  cases h with
  | order hm hs hp hz hc hf _ =>
    simp only [seenR]
    rw [stF_same hf ho', ho t (Nat.le_refl _) (by rw [hr]; rfl)]
  | cancel h =>
    simp only [seenR]
    rw [opn_iff] at h
    rw [ho' _ h.1 h.2.1]
  | prints hc hf => simp only [seenR]; rw [stF_same hf ho']
  | closed h => rfl
  | call hs hp hps hq =>
    simp only [seenR]
    congr 1
    refine List.filter_congr fun q hq1 => ?_
    obtain ⟨⟨k, e, h1, _⟩, _⟩ := hq q hq1
    rw [opn_iff] at h1
    rw [e]
    exact ho' k h1.1 h1.2.1
theorem stF_all (f : Fill) : stF (fun _ => true) f = f := by
  unfold stF
  cases f with
  | mk p z n => cases n <;> rfl
theorem seenR_all : seenR (fun _ => true) t r = r := by
  have h : ∀ fs : List Fill, fs.map (stF fun _ => true) = fs := fun fs => by
    rw [List.map_congr_left fun f _ => stF_all f, List.map_id']
  cases r <;> simp [seenR, h]
theorem seenL_id (h : Good rows) (ho : ∀ k : Nat, isOrd (rowAt rows k) = true → own k = true) : seenL own rows = rows := by
  refine List.ext_getElem? fun s => ?_
  rw [seen_get]
  cases e : rows[s]? with
  | none => rfl
  | some r =>
    rw [Option.map_some, seenR_same (own2 := fun _ => true) (h.at_ s r e) (rowAt_some e) fun k _ hk => ho k hk, seenR_all]
theorem seenL_take (h : Good rows) {own2 : Int → Bool} (ho : ∀ k : Nat, k < t → isOrd (rowAt rows k) = true → own k = own2 k) : seenL own (rows.take t) = (seenL own2 rows).take t := by
  refine List.ext_getElem? fun s => ?_
  rw [seen_get, List.getElem?_take, List.getElem?_take, seen_get]
  split
  · rename_i hs
    cases e : rows[s]? with
    | none => rfl
    | some r => rw [Option.map_some, Option.map_some, seenR_same (own2 := own2) (h.at_ s r e) (rowAt_some e) fun k hk hk2 => ho k (by omega) hk2]
  · rfl
end
end Gn
set_option Elab.async false
set_option linter.all false
set_option maxRecDepth 100000
set_option maxHeartbeats 4000000
namespace Gn
open PySem PySem.Spec PyProof.Rows L2 FS
/-! ### sets of texts -/
theorem addT_mem (xs : List Str) (k x : Str) : x ∈ addT xs k ↔ x ∈ xs ∨ x = k := by
  unfold addT
  split
  · rename_i h
    constructor
    · exact .inl
    · rintro (h1 | rfl)
      · exact h1
      · simpa using h
  · rw [List.mem_cons]
    exact Or.comm
theorem addT_nodup {xs : List Str} {k : Str} (h : xs.Nodup) : (addT xs k).Nodup := by
  unfold addT
  split
  · exact h
  · rename_i h1
    rw [List.nodup_cons]
    exact ⟨fun ha => h1 (by simpa using ha), h⟩
theorem setT_facts (ss : List Str) : (setT ss).Nodup ∧ ∀ x, x ∈ setT ss ↔ x ∈ ss := by
  have : ∀ (l acc : List Str), acc.Nodup → (l.foldl addT acc).Nodup ∧ ∀ x, x ∈ l.foldl addT acc ↔ x ∈ acc ∨ x ∈ l := by
    intro l
    induction l with
    | nil => intro acc h; exact ⟨h, fun x => by simp⟩
    | cons y l ih =>
      intro acc h
      obtain ⟨h1, h2⟩ := ih (addT acc y) (addT_nodup h)
      refine ⟨h1, fun x => ?_⟩
      rw [List.foldl_cons, h2, addT_mem, List.mem_cons, or_assoc]
  obtain ⟨h1, h2⟩ := this ss [] List.nodup_nil
  exact ⟨h1, fun x => (h2 x).trans (by simp)⟩
theorem sortT_mem {ss : List Str} {x : Str} : x ∈ sortT (setT ss) ↔ x ∈ ss := (sortT_perm _).mem_iff.trans ((setT_facts ss).2 x)
theorem sortT_nodup (ss : List Str) : (sortT (setT ss)).Nodup := (sortT_perm _).nodup_iff.mpr (setT_facts ss).1
theorem sortT_same {a b : List Str} (h : ∀ x, x ∈ a ↔ x ∈ b) : sortT (setT a) = sortT (setT b) := by
  refine sorted_one _ _ (sortT_sorted _) (sortT_sorted _) ?_
  refine (sortT_perm _).trans (List.Perm.trans ?_ (sortT_perm _).symm)
  refine (List.perm_ext_iff_of_nodup (setT_facts a).1 (setT_facts b).1).mpr fun x => ?_
  rw [(setT_facts a).2, (setT_facts b).2, h]
theorem nodup_len {α : Type} [DecidableEq α] : ∀ (l m : List α), l.Nodup → (∀ x ∈ l, x ∈ m) → l.length ≤ m.length
  | [], m, _, _ => Nat.zero_le _
  | x :: l, m, h, s => by
    have h1 := List.nodup_cons.mp h
    have hx := s x List.mem_cons_self
    have := nodup_len l (m.erase x) h1.2 fun y hy => by
      have hne : y ≠ x := fun e => h1.1 (e ▸ hy)
      exact (List.mem_erase_of_ne hne).mpr (s y (List.mem_cons_of_mem _ hy))
    rw [List.length_erase_of_mem hx] at this
    have := List.length_pos_of_mem hx
    rw [List.length_cons]
    omega
/-! ### members -/
def namesL (rows : List Row) : List Str := (rows.filter isOrd).map nameOf
def memsL (rows : List Row) : List Str := sortT (setT (namesL rows))
theorem mems_iff {rows : List Row} {x : Str} : x ∈ memsL rows ↔ ∃ k : Nat, isOrd (rowAt rows k) = true ∧ nameOf (rowAt rows k) = x := by
  unfold memsL namesL
  rw [sortT_mem, List.mem_map]
  constructor
  · rintro ⟨r, hr, e⟩
    obtain ⟨h1, h2⟩ := List.mem_filter.mp hr
    obtain ⟨k, hk, e2⟩ := List.getElem_of_mem h1
    have : rowAt rows k = r := rowAt_some (by rw [List.getElem?_eq_getElem hk, e2])
    exact ⟨k, by rw [this]; exact h2, by rw [this]; exact e⟩
  · rintro ⟨k, h1, h2⟩
    exact ⟨rowAt rows k, List.mem_filter.mpr ⟨row_mem (rowAt_ord h1), h1⟩, h2⟩
theorem ord_mem {rows : List Row} {k : Nat} : k ∈ ordersL rows ↔ isOrd (rowAt rows k) = true := by
  unfold ordersL
  rw [List.mem_filter, List.mem_range]
  exact ⟨fun h => h.2, fun h => ⟨rowAt_ord h, h⟩⟩
theorem mems_nm {rows : List Row} (h : Good rows) {x : Str} (hx : x ∈ memsL rows) : Nm x := by
  obtain ⟨k, h1, rfl⟩ := mems_iff.mp hx
  have := h.at_ k _ (rowAt_get (rowAt_ord h1))
  generalize rowAt rows k = r at *
  cases this with
  | order hm => exact hm
  | _ => cases h1
theorem mems_len {rows : List Row} (h : Good rows) : (memsL rows).length ≤ 5 := by
  refine nodup_len _ (["ann", "bob", "cy", "dee", "eve"] : List Str) (sortT_nodup _) fun x hx => ?_
  rcases mems_nm h hx with rfl | rfl | rfl | rfl | rfl <;> simp
/-! ### views -/
def ownL (rows : List Row) (ms : List Str) : List Nat := (ordersL rows).filter fun k => ms.contains (nameOf (rowAt rows k))
def ownB (rows : List Row) (ms : List Str) : Int → Bool := fun n => ((ownL rows ms).map fun (k : Nat) => (k : Int)).contains n
def viewL (rows : List Row) (ms : List Str) : List Row := seenL (ownB rows ms) rows
section
variable {rows : List Row} {ms gs : List Str} {t i k : Nat}
theorem ownL_mem : k ∈ ownL rows ms ↔ isOrd (rowAt rows k) = true ∧ nameOf (rowAt rows k) ∈ ms := by
  unfold ownL
  rw [List.mem_filter, ord_mem, List.contains_iff_mem]
theorem ownB_iff {n : Int} : ownB rows ms n = true ↔ ∃ k : Nat, n = k ∧ isOrd (rowAt rows k) = true ∧ nameOf (rowAt rows k) ∈ ms := by
  unfold ownB
  rw [List.contains_iff_mem, List.mem_map]
  constructor
  · rintro ⟨k, h1, rfl⟩
    exact ⟨k, rfl, ownL_mem.mp h1⟩
  · rintro ⟨k, rfl, h1⟩
    exact ⟨k, ownL_mem.mpr h1, rfl⟩
theorem ownB_nat : ownB rows ms (k : Int) = true ↔ isOrd (rowAt rows k) = true ∧ nameOf (rowAt rows k) ∈ ms := by
  rw [ownB_iff]
  constructor
  · rintro ⟨j, e, h⟩
    have : k = j := by omega
    subst this
    exact h
  · exact fun h => ⟨k, rfl, h⟩
theorem ownB_own : ownB rows ms (k : Int) = true ↔ k ∈ ownL rows ms := ownB_nat.trans ownL_mem.symm
theorem view_ord : isOrd (rowAt (viewL rows ms) k) = true ↔ k ∈ ownL rows ms := by
  unfold viewL
  rw [seen_at, seen_isOrd, Bool.and_eq_true, ownB_nat, ownL_mem]
  exact ⟨fun h => h.2, fun h => ⟨h.1, h⟩⟩
theorem view_name (h : k ∈ ownL rows ms) : nameOf (rowAt (viewL rows ms) k) = nameOf (rowAt rows k) := by
  unfold viewL
  rw [seen_at, seen_name (ownB_own.mpr h)]
theorem view_len : (viewL rows ms).length = rows.length := seen_len
theorem view_orders : ordersL (viewL rows ms) = ownL rows ms := by
  unfold ownL
  show (List.range (viewL rows ms).length).filter _ = ((List.range rows.length).filter _).filter _
  rw [view_len, List.filter_filter]
  refine List.filter_congr fun k _ => bool_iff ?_
  rw [view_ord, ownL_mem, Bool.and_eq_true, List.contains_iff_mem]
  exact And.comm
theorem view_own (h : ∀ x ∈ gs, x ∈ ms) (n : Int) : ownB (viewL rows ms) gs n = ownB rows gs n := by
  refine bool_iff ?_
  rw [ownB_iff, ownB_iff]
  refine exists_congr fun k => and_congr_right fun _ => ?_
  rw [view_ord]
  constructor
  · rintro ⟨h1, h2⟩
    rw [view_name h1] at h2
    exact ⟨(ownL_mem.mp h1).1, h2⟩
  · rintro ⟨h1, h2⟩
    have h3 : k ∈ ownL rows ms := ownL_mem.mpr ⟨h1, h _ h2⟩
    exact ⟨h3, by rw [view_name h3]; exact h2⟩
theorem view_view (h : ∀ x ∈ gs, x ∈ ms) : viewL (viewL rows ms) gs = viewL rows gs := by
  show seenL (ownB (viewL rows ms) gs) (seenL (ownB rows ms) rows) = seenL (ownB rows gs) rows
  rw [show ownB (viewL rows ms) gs = ownB rows gs from funext (view_own h)]
  refine seenL_seenL fun n hn => ?_
  obtain ⟨k, rfl, h1, h2⟩ := ownB_iff.mp hn
  exact ownB_nat.mpr ⟨h1, h _ h2⟩
theorem view_mems (h : ∀ x ∈ ms, x ∈ memsL rows) : memsL (viewL rows ms) = sortT (setT ms) := by
  show sortT (setT (namesL _)) = _
  refine sortT_same fun x => ?_
  rw [← sortT_mem]
  show x ∈ memsL _ ↔ _
  rw [mems_iff]
  constructor
  · rintro ⟨k, h1, rfl⟩
    rw [view_ord] at h1
    rw [view_name h1]
    exact (ownL_mem.mp h1).2
  · intro hx
    obtain ⟨k, h1, rfl⟩ := mems_iff.mp (h x hx)
    have h2 : k ∈ ownL rows ms := ownL_mem.mpr ⟨h1, hx⟩
    exact ⟨k, view_ord.mpr h2, view_name h2⟩
theorem view_all (h : Good rows) (hm : ∀ x ∈ memsL rows, x ∈ ms) : viewL rows ms = rows := seenL_id h fun k hk => ownB_nat.mpr ⟨hk, hm _ (mems_iff.mpr ⟨k, hk, rfl⟩)⟩
theorem take_at (h : k < t) : rowAt (rows.take t) k = rowAt rows k := by
  unfold rowAt
  rw [List.getElem?_take, if_pos h]
theorem view_take (h : Good rows) : viewL (rows.take t) (ms.filter fun x => (memsL (rows.take t)).contains x) = (viewL rows ms).take t := by
  refine seenL_take h fun k hk ho => bool_iff ?_
  rw [ownB_nat, ownB_nat, take_at hk, List.mem_filter, List.contains_iff_mem]
  constructor
  · exact fun h => ⟨h.1, h.2.1⟩
  · exact fun h => ⟨h.1, h.2, mems_iff.mpr ⟨k, by rw [take_at hk]; exact h.1, by rw [take_at hk]⟩⟩
theorem view_opn (h : k ∈ ownL rows ms) : opnL (viewL rows ms) k t i = opnL rows k t i := seen_opn (ownB_own.mpr h)
theorem view_rst (h : k ∈ ownL rows ms) : rstL (viewL rows ms) k t i = rstL rows k t i := seen_rst (ownB_own.mpr h)
theorem Good.view (h : Good rows) (ms : List Str) : Good (viewL rows ms) := h.seen _
def opensL (rows : List Row) (t i : Nat) : List Nat := (ordersL rows).filter fun k => opnL rows k t i
theorem view_opens : opensL (viewL rows ms) t i = (opensL rows t i).filter fun k => (ownL rows ms).contains k := by
  unfold opensL
  rw [view_orders, List.filter_filter]
  have : ownL rows ms = (ordersL rows).filter fun k => (ownL rows ms).contains k := by
    show (ordersL rows).filter _ = _
    refine List.filter_congr fun k hk => bool_iff ?_
    rw [List.contains_iff_mem, List.contains_iff_mem, ownL_mem]
    exact ⟨fun h => ⟨ord_mem.mp hk, h⟩, fun h => h.2⟩
  conv => lhs; rw [this]
  rw [List.filter_filter]
  refine List.filter_congr fun k hk => ?_
  cases e : (ownL rows ms).contains k
  · rw [Bool.and_false, Bool.false_and]
  · rw [Bool.and_true, Bool.true_and]
    exact view_opn (List.contains_iff_mem.mp e)
/-! ### prints -/
def rowPr (t : Nat) (r : Row) : List (Nat × Nat × Int × Int) := (fillsOf r).zipIdx.map fun q => (t, q.2, q.1.p, q.1.z)
def printsL (rows : List Row) : List (Nat × Nat × Int × Int) := (List.range rows.length).flatMap fun t => rowPr t (rowAt rows t)
theorem seen_rowPr (own : Int → Bool) (s : Nat) (r : Row) : rowPr t (seenR own s r) = rowPr t r := by
  unfold rowPr
  rw [seen_fills, List.zipIdx_map, List.map_map]
  rfl
theorem view_prints : printsL (viewL rows ms) = printsL rows := by
  unfold printsL
  rw [view_len]
  unfold viewL
  congr 1
  funext t
  rw [seen_at, seen_rowPr]
end
/-! ### groups -/
def groupsL (ms : List Str) : List (List Str) := ms.foldl (fun acc x => acc ++ acc.map (· ++ [x])) [[]]
theorem groups_snoc (ms : List Str) (x : Str) : groupsL (ms ++ [x]) = groupsL ms ++ (groupsL ms).map (· ++ [x]) := by
  unfold groupsL
  rw [List.foldl_append]
  rfl
theorem groups_len (ms : List Str) : (groupsL ms).length = 2 ^ ms.length := by
  have : ∀ (l : List Str) (acc : List (List Str)), (l.foldl (fun acc x => acc ++ acc.map (· ++ [x])) acc).length = 2 ^ l.length * acc.length := by
    intro l
    induction l with
    | nil => intro acc; simp
    | cons x l ih =>
      intro acc
      rw [List.foldl_cons, ih, List.length_append, List.length_map, List.length_cons, Nat.pow_succ, Nat.mul_assoc, Nat.two_mul]
  have h := this ms [[]]
  rw [List.length_singleton, Nat.mul_one] at h
  exact h
theorem groups_sub {ms : List Str} : ∀ g ∈ groupsL ms, (∀ x ∈ g, x ∈ ms) ∧ g.length ≤ ms.length := by
  have : ∀ (l : List Str) (acc : List (List Str)) (p : List Str), (∀ g ∈ acc, (∀ x ∈ g, x ∈ p) ∧ g.length ≤ p.length) → ∀ g ∈ l.foldl (fun acc x => acc ++ acc.map (· ++ [x])) acc, (∀ x ∈ g, x ∈ p ++ l) ∧ g.length ≤ p.length + l.length := by
    intro l
    induction l with
    | nil => intro acc p h g hg; simpa using h g hg
    | cons y l ih =>
      intro acc p h g hg
      have := ih (acc ++ acc.map (· ++ [y])) (p ++ [y]) (fun g hg => by
        rcases List.mem_append.mp hg with hg | hg
        · exact ⟨fun x hx => List.mem_append_left _ ((h g hg).1 x hx), by rw [List.length_append]; exact Nat.le_trans (h g hg).2 (Nat.le_add_right _ _)⟩
        · obtain ⟨g', hg', rfl⟩ := List.mem_map.mp hg
          refine ⟨fun x hx => ?_, by rw [List.length_append, List.length_append]; exact Nat.add_le_add_right (h g' hg').2 _⟩
          rcases List.mem_append.mp hx with hx | hx
          · exact List.mem_append_left _ ((h g' hg').1 x hx)
          · exact List.mem_append_right _ hx) g hg
      refine ⟨fun x hx => by simpa using this.1 x hx, ?_⟩
      have h2 := this.2
      rw [List.length_append, List.length_singleton] at h2
      rw [List.length_cons]
      omega
  intro g hg
  have h := this ms [[]] [] (fun g hg => by rw [List.mem_singleton] at hg; subst hg; exact ⟨(fun x hx => by cases hx), Nat.le_refl _⟩) g hg
  exact ⟨fun x hx => by simpa using h.1 x hx, by simpa using h.2⟩
end Gn
set_option Elab.async false
set_option linter.all false
set_option maxRecDepth 100000
set_option maxHeartbeats 4000000
namespace Gn
open PySem PySem.Spec PyProof.Rows L2 FS
/-! ### the law's own sums -/
theorem tot_app (a b : List (Int × Int)) (n : Int) : tot (a ++ b) n = tot a n + tot b n := by
  unfold tot
  rw [List.filter_append, List.map_append, List.sum_append]
theorem tot_flat {α : Type} (g : α → List (Int × Int)) (n : Int) : ∀ l : List α, tot (l.flatMap g) n = (l.map fun x => tot (g x) n).sum
  | [] => rfl
  | x :: l => by rw [List.flatMap_cons, tot_app, tot_flat g n l, List.map_cons, List.sum_cons]
theorem sumz (p : Fill → Bool) : ∀ l : List Fill, ((l.filter p).map (·.z)).sum = (l.map fun f => if p f = true then f.z else 0).sum
  | [] => rfl
  | f :: l => by
    by_cases h : p f = true
    · rw [List.filter_cons_of_pos h, List.map_cons, List.sum_cons, List.map_cons, List.sum_cons, if_pos h, sumz p l]
    · rw [List.filter_cons_of_neg h, List.map_cons, List.sum_cons, if_neg h, sumz p l, Int.zero_add]
theorem tot_one (m z n : Int) : tot [(m, z)] n = if m = n then z else 0 := by
  unfold tot
  by_cases h : m = n
  · rw [if_pos h, List.filter_cons_of_pos (by simpa using h)]
    simp
  · rw [if_neg h, List.filter_cons_of_neg (by simpa using h)]
    rfl
theorem tot_fill {s n : Int} {r : Row} {f : Fill} (h : f.n = some n → s ≠ n) (ho : s = n → isOrd r = true) : tot (fillTr s r f) n = if (decide (f.n = some n) || decide (s = n)) = true then f.z else 0 := by
  have e1 : tot (if isOrd r = true then [(s, f.z)] else []) n = if s = n then f.z else 0 := by
    by_cases hr : isOrd r = true
    · rw [if_pos hr, tot_one]
    · rw [if_neg hr, if_neg fun e => hr (ho e)]
      rfl
  unfold fillTr
  rw [tot_app, e1]
  cases hn : f.n with
  | none =>
    show _ + tot [] n = _
    rw [tot_nil, Int.add_zero]
    by_cases hs : s = n <;> simp [hs]
  | some m =>
    show _ + tot [(m, f.z)] n = _
    rw [tot_one]
    by_cases hm : m = n
    · subst hm
      have hs := h hn
      simp [hs]
    · by_cases hs : s = n <;> simp [hs, hm]
theorem tot_fills {s n : Int} {r : Row} {fs : List Fill} (h : ∀ f ∈ fs, f.n = some n → s ≠ n) (ho : s = n → isOrd r = true) : tot (fs.flatMap (fillTr s r)) n = ((fs.filter fun f => decide (f.n = some n) || decide (s = n)).map (·.z)).sum := by
  rw [tot_flat, sumz]
  congr 1
  exact List.map_congr_left fun f hf => tot_fill (h f hf) ho
theorem tot_row {rows : List Row} {t i s k : Nat} (hs : s < rows.length) (h : ∀ f ∈ fillsOf (rowAt rows s), f.n = some (k : Int) → s ≠ k) (ho : isOrd (rowAt rows k) = true) :
    tot (rowTr rows t i s) k = if s < t then lotsL k s (rowAt rows s) (fillsOf (rowAt rows s)) else if isCall (rowAt rows s) = true then 0 else lotsL k s (rowAt rows s) ((fillsOf (rowAt rows s)).take i) := by
  unfold rowTr
  rw [rowAt_get hs]
  dsimp only
  have ho2 : ((s : Nat) : Int) = (k : Int) → isOrd (rowAt rows s) = true := fun e => by
    have : s = k := by omega
    rw [this]; exact ho
  have h2 : ∀ fs : List Fill, (∀ f ∈ fs, f ∈ fillsOf (rowAt rows s)) → ∀ f ∈ fs, f.n = some (k : Int) → ((s : Nat) : Int) ≠ (k : Int) := fun fs hm f hf e e2 => h f (hm f hf) e (by omega)
  rw [tot_app, tot_fills (h2 _ fun f hf => List.mem_of_mem_take hf) ho2]
  by_cases hc : isCall (rowAt rows s) = true
  · have hf : fillsOf (rowAt rows s) = [] := by
      generalize rowAt rows s = r at hc
      cases r <;> first | rfl | cases hc
    rw [hf, List.take_nil]
    unfold lotsL
    rw [if_pos hc, if_pos hc]
    show 0 + tot _ _ = _
    rw [Int.zero_add]
    split <;> rfl
  · have hp : callPs (rowAt rows s) = [] := callPs_not (by simpa using hc)
    unfold lotsL
    rw [if_neg hc, if_neg hc, if_neg hc, hp]
    have : (if s < t then ([] : List (Int × Int)) else []) = [] := by split <;> rfl
    rw [this, tot_nil, Int.add_zero]
    split
    · rw [List.take_of_length_le (Nat.le_refl _)]
    · rfl
theorem tot_bef {rows : List Row} {k t i : Nat} (ht : t ≤ rows.length) (ho : isOrd (rowAt rows k) = true) (h : ∀ s, s ≤ t → ∀ f ∈ fillsOf (rowAt rows s), f.n = some (k : Int) → s ≠ k) : tot (tradesL rows t i) k = befL rows k t i := by
  unfold tradesL tradesTo befL
  rw [tot_flat]
  have e1 : ((List.range t).map fun (s : Nat) => tot (rowTr rows t i s) (k : Int)) = (List.range t).map fun (s : Nat) => lotsL k s (rowAt rows s) (fillsOf (rowAt rows s)) := by
    refine List.map_congr_left fun s hs => ?_
    have hs2 : s < t := List.mem_range.mp hs
    rw [tot_row (by omega) (h s (by omega)) ho, if_pos hs2]
  by_cases hl : t < rows.length
  · rw [Nat.min_eq_left (by omega), List.range_succ, List.map_append, List.sum_append, e1]
    congr 1
    rw [List.map_cons, List.map_nil, List.sum_cons, List.sum_nil, Int.add_zero, tot_row hl (h t (Nat.le_refl _)) ho, if_neg (Nat.lt_irrefl _)]
  · have : t = rows.length := by omega
    subst this
    rw [Nat.min_eq_right (by omega), e1]
    have hb : rowAt rows rows.length = .closed := rowAt_big (Nat.le_refl _)
    rw [hb]
    show _ = _ + lotsL k _ .closed (List.take i [])
    rw [List.take_nil]
    show _ = _ + 0
    rw [Int.add_zero]
theorem opn_of {rows : List Row} {k t i : Nat} (ht : t ≤ rows.length) (hk : k ∈ openL rows t i) (h : ∀ s, s ≤ t → ∀ f ∈ fillsOf (rowAt rows s), f.n = some (k : Int) → s ≠ k) : opnL rows k t i = true ∧ restL rows k t i = rstL rows k t i := by
  obtain ⟨h1, h2⟩ := List.mem_filter.mp hk
  have ho := ord_mem.mp h1
  have e := tot_bef (i := i) ht ho h
  unfold openP at h2
  simp only [Bool.and_eq_true, decide_eq_true_eq, Bool.not_eq_true'] at h2
  have hr : restL rows k t i = rstL rows k t i := by unfold restL rstL; rw [e]
  refine ⟨?_, hr⟩
  have h3 : 0 < rstL rows k t i := by rw [← hr]; unfold restL; omega
  unfold opnL
  simp only [Bool.and_eq_true, decide_eq_true_eq, Bool.not_eq_true']
  exact ⟨⟨⟨h2.1.1, ho⟩, h2.1.2⟩, h3⟩
theorem sht_of {rows : List Row} {t : Nat} (ht : t ≤ rows.length) : shutL rows t = shtL rows t := by
  unfold shutL shtL
  by_cases h0 : 0 < t
  · rw [decide_eq_true h0, Bool.true_and, Bool.true_and]
    cases hc : isClosed (rowAt rows 0) with
    | false => rfl
    | true =>
      rw [Bool.true_and, Bool.true_and]
      refine bool_iff ?_
      rw [List.isEmpty_iff, List.map_eq_nil_iff, List.filter_eq_nil_iff, List.all_eq_true]
      constructor
      · intro h s hs
        rw [List.mem_range] at hs
        cases hb : isCall (rowAt rows s) with
        | false => rfl
        | true =>
          exfalso
          cases s with
          | zero =>
            generalize rowAt rows 0 = r at *
            cases r <;> first | (cases hb; done) | (cases hc; done)
          | succ s =>
            refine h (rowAt rows (s + 1)) ?_ hb
            refine List.mem_of_getElem? (i := s) ?_
            rw [List.getElem?_take, if_pos (by omega), List.getElem?_drop, Nat.add_comm, rowAt_get (by omega)]
      · intro h r hr hb
        obtain ⟨s, hs, e⟩ := List.getElem_of_mem hr
        rw [List.length_take, List.length_drop] at hs
        rw [List.getElem_take, List.getElem_drop] at e
        have := h (1 + s) (List.mem_range.mpr (by omega))
        rw [rowAt_some (r := r) (by rw [List.getElem?_eq_getElem (by omega), e]), hb] at this
        cases this
  · rw [decide_eq_false h0, Bool.false_and, Bool.false_and, Bool.false_and]
/-! ### a row more -/
section
variable {rows : List Row} {x : Row} {t i k : Nat}
theorem snoc_at (h : t < rows.length) : rowAt (rows ++ [x]) t = rowAt rows t := by
  unfold rowAt
  rw [List.getElem?_append_left h]
theorem snoc_end : rowAt (rows ++ [x]) rows.length = x := by
  unfold rowAt
  simp
theorem snoc_sum (n : Int) (h : t ≤ rows.length) : ((List.range t).map fun (r : Nat) => lotsL n r (rowAt (rows ++ [x]) r) (fillsOf (rowAt (rows ++ [x]) r))) = (List.range t).map fun (r : Nat) => lotsL n r (rowAt rows r) (fillsOf (rowAt rows r)) := by
  refine List.map_congr_left fun s hs => ?_
  rw [snoc_at (by have := List.mem_range.mp hs; omega)]
theorem snoc_bef (h : t < rows.length) : befL (rows ++ [x]) k t i = befL rows k t i := by
  unfold befL
  rw [snoc_sum _ (by omega), snoc_at h]
theorem snoc_opn_of (h : t ≤ rows.length) (hb : befL (rows ++ [x]) k t i = befL rows k t i) : opnL (rows ++ [x]) k t i = opnL rows k t i ∧ (k < t → rstL (rows ++ [x]) k t i = rstL rows k t i) := by
  have hg : goneL (rows ++ [x]) t = goneL rows t := by
    unfold goneL
    rw [List.take_append_of_le_length h]
  have hr : k < t → rstL (rows ++ [x]) k t i = rstL rows k t i := fun hk => by
    unfold rstL
    rw [hb, snoc_at (by omega)]
  refine ⟨?_, hr⟩
  unfold opnL
  rw [hg]
  by_cases hk : k < t
  · rw [hr hk, snoc_at (by omega)]
  · rw [decide_eq_false hk, Bool.false_and, Bool.false_and, Bool.false_and, Bool.false_and, Bool.false_and, Bool.false_and]
theorem snoc_sht (h : t ≤ rows.length) : shtL (rows ++ [x]) t = shtL rows t := by
  by_cases h0 : 0 < t
  · refine bool_iff ?_
    rw [sht_iff, sht_iff, snoc_at (by omega)]
    refine and_congr_right fun _ => and_congr_right fun _ => forall_congr' fun s => ?_
    constructor
    · intro h1 hs; have := h1 hs; rwa [snoc_at (by omega)] at this
    · intro h1 hs; rw [snoc_at (by omega)]; exact h1 hs
  · unfold shtL
    rw [decide_eq_false h0]
    rfl
theorem snoc_fillOk {f : Fill} (ht : t ≤ rows.length) (hb : ∀ k, befL (rows ++ [x]) k t i = befL rows k t i) (h : FillOk rows t i f) : FillOk (rows ++ [x]) t i f := by
  refine ⟨h.p, h.z, fun n hn => ?_⟩
  obtain ⟨k, rfl, h1, h2, h3⟩ := h.own n hn
  obtain ⟨e1, e2⟩ := snoc_opn_of (k := k) ht (hb k)
  have hk := (opn_iff.mp h1).1
  exact ⟨k, rfl, by rw [e1]; exact h1, by rw [snoc_at (by omega)]; exact h2, by rw [e2 hk]; exact h3⟩
theorem snoc_rowOk {r : Row} (ht : t < rows.length) (h : RowOk rows t r) : RowOk (rows ++ [x]) t r := by
  have hb : ∀ i k, befL (rows ++ [x]) k t i = befL rows k t i := fun i k => snoc_bef ht
  have hs : shtL (rows ++ [x]) t = shtL rows t := snoc_sht (by omega)
  cases h with
  | order hm hs1 hp hz hc hf ho =>
    refine .order hm hs1 hp hz (by rw [hs]; exact hc) (fun i f e => snoc_fillOk (by omega) (hb i) (hf i f e)) fun i f e => ⟨fun k hk => ?_, (ho i f e).within, (ho i f e).fit⟩
    obtain ⟨j, e1, h1, _⟩ := (hf i f e).ref hk
    have : k = j := by omega
    subst this
    rw [snoc_at (by omega)]
    exact (ho i f e).side k hk
  | cancel h => exact .cancel (by rw [(snoc_opn_of (by omega) (hb 0 _)).1]; exact h)
  | prints hc hf => exact .prints (by rw [hs]; exact hc) fun i f e => snoc_fillOk (by omega) (hb i) (hf i f e)
  | closed h => exact .closed h
  | call hs1 hp hps hq =>
    refine .call (by rw [hs]; exact hs1) hp hps fun q hq1 => ?_
    obtain ⟨⟨k, e, h1, h2, h3⟩, h4⟩ := hq q hq1
    obtain ⟨e1, e2⟩ := snoc_opn_of (k := k) (x := x) (Nat.le_of_lt ht) (hb 0 k)
    have hk := (opn_iff.mp h1).1
    exact ⟨⟨k, e, by rw [e1]; exact h1, by rw [e2 hk]; exact h2, fun i hi => by rw [snoc_at (by omega)]; exact h3 i hi⟩, h4⟩
theorem Good.refs (h : Good rows) {s : Nat} : ∀ f ∈ fillsOf (rowAt rows s), ∀ k : Nat, f.n = some (k : Int) → k < s := by
  intro f hf k e
  by_cases hs : s < rows.length
  · have h1 := h.at_ s _ (rowAt_get hs)
    have key : ∀ fs : List Fill, (∀ i f, fs[i]? = some f → FillOk rows s i f) → f ∈ fs → k < s := fun fs h2 hm => by
      obtain ⟨i, hi, e2⟩ := List.getElem_of_mem hm
      obtain ⟨j, e3, h3, _⟩ := (h2 i f (by rw [List.getElem?_eq_getElem hi, e2])).ref e
      omega
    generalize rowAt rows s = r at hf h1
    cases h1 with
    | order hm hs hp hz hc hf2 ho => exact key _ hf2 hf
    | prints hc hf2 => exact key _ hf2 hf
    | _ => cases hf
  · rw [rowAt_big (by omega)] at hf; cases hf
theorem Good.snoc (h : Good rows) (hx : RowOk (rows ++ [x]) rows.length x) (ho : ROk x) (hl : rows.length ≤ 30) : Good (rows ++ [x]) := by
  refine ⟨fun t r e => ?_, fun r hr => ?_, by rw [List.length_append, List.length_singleton]; omega⟩
  · by_cases ht : t < rows.length
    · rw [List.getElem?_append_left ht] at e
      exact snoc_rowOk ht (h.at_ t r e)
    · have : t < (rows ++ [x]).length := (List.getElem?_eq_some_iff.mp e).1
      rw [List.length_append, List.length_singleton] at this
      have e2 : t = rows.length := by omega
      subst e2
      rw [List.getElem?_concat_length] at e
      cases e
      exact hx
  · rcases List.mem_append.mp hr with hr | hr
    · exact h.ok r hr
    · rw [List.mem_singleton] at hr
      subst hr
      exact ho
theorem Good.nil : Good [] := ⟨(fun t r e => by simp at e), (fun r hr => by cases hr), by decide⟩
theorem Good.shut : Good [.closed] := by
  refine ⟨fun t r e => ?_, fun r hr => ?_, by decide⟩
  · cases t with
    | zero => cases e; exact .closed rfl
    | succ t => simp at e
  · rw [List.mem_singleton] at hr; subst hr; exact .closed
/-! ### drawn rows are good -/
theorem fills_at {left limit : Int} {side : Option Str} {fs : List Fill} (h : FillsBy rows left side limit fs) : ∀ i f, fs[i]? = some f → FillBy rows left side limit (fs.take i) f := by
  induction h with
  | nil => intro i f e; simp at e
  | @snoc fs g h s ih =>
    intro i f e
    by_cases hi : i < fs.length
    · rw [List.getElem?_append_left hi] at e
      rw [List.take_append_of_le_length (by omega)]
      exact ih i f e
    · have : i < (fs ++ [g]).length := (List.getElem?_eq_some_iff.mp e).1
      rw [List.length_append, List.length_singleton] at this
      have e2 : i = fs.length := by omega
      subst e2
      rw [List.getElem?_concat_length] at e
      cases e
      rw [List.take_left]
      exact s
theorem late_opn (h : Good rows) {fs : List Fill} {k : Nat} (hk : k ∈ openL (late rows fs) rows.length fs.length) (hr : ∀ f ∈ fs, ∀ j : Nat, f.n = some (j : Int) → j < rows.length) :
    opnL (late rows fs) k rows.length fs.length = true ∧ restL (late rows fs) k rows.length fs.length = rstL (late rows fs) k rows.length fs.length := by
  have hl := (open_lt hk).1
  refine opn_of (by unfold late; rw [List.length_append]; omega) hk fun s hs f hf e => ?_
  by_cases h1 : s < rows.length
  · rw [late_at h1] at hf
    have := h.refs f hf k e
    omega
  · have : s = rows.length := by omega
    omega
theorem lots_any {n t : Int} {r r' : Row} (fs : List Fill) (h : isCall r = false) (h' : isCall r' = false) : lotsL n t r fs = lotsL n t r' fs := by
  unfold lotsL
  rw [h, h']
  rfl
theorem late_bef {fs : List Fill} (hx : isCall x = false) (hi : i ≤ (fillsOf x).length) (e : fs = (fillsOf x).take i) : befL (late rows fs) k rows.length fs.length = befL (rows ++ [x]) k rows.length i := by
  unfold befL late
  rw [snoc_sum _ (Nat.le_refl _), snoc_sum _ (Nat.le_refl _), snoc_end, snoc_end, hx]
  congr 1
  rw [if_neg Bool.false_ne_true, if_neg (show ¬ isCall (.prints fs) = true from Bool.false_ne_true), lots_any (r' := x) _ rfl hx]
  show lotsL _ _ _ (List.take _ fs) = _
  rw [List.take_of_length_le (Nat.le_refl _), e]
theorem late_both {fs : List Fill} (hx : isCall x = false) (hi : i ≤ (fillsOf x).length) (e : fs = (fillsOf x).take i) (hk : k < rows.length) :
    opnL (late rows fs) k rows.length fs.length = opnL (rows ++ [x]) k rows.length i ∧ rstL (late rows fs) k rows.length fs.length = rstL (rows ++ [x]) k rows.length i := by
  have hb := late_bef (rows := rows) (k := k) hx hi e
  have hr : rstL (late rows fs) k rows.length fs.length = rstL (rows ++ [x]) k rows.length i := by
    unfold rstL
    rw [hb, late_at hk, snoc_at hk]
  refine ⟨?_, hr⟩
  unfold opnL
  rw [hr, late_at hk, snoc_at hk]
  congr 3
  unfold goneL late
  rw [List.take_left, List.take_left]
theorem fills_ok (h : Good rows) (hg : ∀ r ∈ rows, GR r) (hx : isCall x = false) {left limit : Int} {side : Option Str} (hf : FillsBy rows left side limit (fillsOf x)) (hlim : side.isSome = true → 8 ≤ limit) (hs : ∀ s, side = some s → s = "buy" ∨ s = "sell") :
    (∀ i f, (fillsOf x)[i]? = some f → FillOk (rows ++ [x]) rows.length i f) ∧ (∀ s, side = some s → ∀ i f, (fillsOf x)[i]? = some f → OwnOk (rows ++ [x]) s limit left (fillsOf x) i f) := by
  have href : ∀ f ∈ fillsOf x, ∀ j : Nat, f.n = some (j : Int) → j < rows.length := by
    intro f hm j e
    obtain ⟨i, hi, e2⟩ := List.getElem_of_mem hm
    have s := fills_at hf i f (by rw [List.getElem?_eq_getElem hi, e2])
    obtain ⟨k, e3, hc, _⟩ := s.own _ e
    have := hc.lt.1
    omega
  have own : ∀ (i : Nat) (f : Fill), (fillsOf x)[i]? = some f → ∀ n : Int, f.n = some n → ∃ k : Nat, n = k ∧ k < rows.length ∧ opnL (rows ++ [x]) k rows.length i = true ∧ priceOf (rowAt rows k) = f.p ∧ 8 ≤ f.p ∧ f.z ≤ rstL (rows ++ [x]) k rows.length i ∧ Cand rows ((fillsOf x).take i) side limit k := by
    intro i f e n hn
    have hi : i < (fillsOf x).length := (List.getElem?_eq_some_iff.mp e).1
    have s := fills_at hf i f e
    obtain ⟨k, rfl, hc, h1, h2⟩ := s.own n hn
    have hk := hc.lt.1
    obtain ⟨o1, o2⟩ := late_opn h hc.opn fun g hg j ej => href g (List.mem_of_mem_take hg) j ej
    obtain ⟨e1, e2⟩ := late_both (k := k) (fs := (fillsOf x).take i) hx (Nat.le_of_lt hi) rfl hk
    have hpr := price_bd hg hk hc.lt.2
    refine ⟨k, rfl, hk, by rw [← e1]; exact o1, h1.symm, by omega, ?_, hc⟩
    rw [← e2, ← o2]
    exact h2
  have sg : ∀ s : Str, s = "buy" ∨ s = "sell" → (s == ("buy" : Str)) = true ∧ sgn s = 1 ∨ (s == ("buy" : Str)) = false ∧ sgn s = -1 := by
    rintro s (rfl | rfl)
    · exact .inl ⟨by decide +kernel, by unfold sgn; rw [if_pos (by decide +kernel)]⟩
    · exact .inr ⟨by decide +kernel, by unfold sgn; rw [if_neg (by decide +kernel)]⟩
  refine ⟨fun i f e => ?_, fun s hs1 i f e => ?_⟩
  · have s := fills_at hf i f e
    refine ⟨?_, s.one, fun n hn => ?_⟩
    · cases hn : f.n with
      | some n =>
        obtain ⟨k, _, _, _, _, h8, _⟩ := own i f e n hn
        omega
      | none =>
        cases hsd : side with
        | none => have := s.free hn hsd; omega
        | some sd =>
          have h3 := s.lim hn sd hsd
          have h4 := hlim (by rw [hsd]; rfl)
          rcases sg sd (hs sd hsd) with ⟨_, h5⟩ | ⟨_, h5⟩ <;> (rw [h5] at h3; omega)
    · obtain ⟨k, rfl, hk, h1, h2, _, h3, _⟩ := own i f e n hn
      exact ⟨k, rfl, h1, by rw [snoc_at hk]; exact h2, h3⟩
  · have sb := fills_at hf i f e
    refine ⟨fun k hk => ?_, ?_, sb.fit⟩
    · obtain ⟨j, e1, hj, _, _, _, _, hc⟩ := own i f e _ hk
      have : k = j := by omega
      subst this
      rw [snoc_at hj]
      exact hc.other s hs1
    · unfold withinL
      cases hn : f.n with
      | some n =>
        obtain ⟨k, _, _, _, h2, _, _, hc⟩ := own i f e n hn
        have h3 := hc.price s hs1
        rw [h2] at h3
        rcases sg s (hs s hs1) with ⟨h4, h5⟩ | ⟨h4, h5⟩
        · rw [h5] at h3
          rw [if_pos h4, decide_eq_true_eq]
          omega
        · rw [h5] at h3
          rw [if_neg (by rw [h4]; exact Bool.false_ne_true), decide_eq_true_eq]
          omega
      | none =>
        have h3 := sb.lim hn s hs1
        rcases sg s (hs s hs1) with ⟨h4, h5⟩ | ⟨h4, h5⟩
        · rw [h5] at h3
          rw [if_pos h4, decide_eq_true_eq]
          omega
        · rw [h5] at h3
          rw [if_neg (by rw [h4]; exact Bool.false_ne_true), decide_eq_true_eq]
          omega
theorem here_opn (h : Good rows) (hk : k ∈ openL rows rows.length 0) (hx : isCall x = true ∨ fillsOf x = []) : k < rows.length ∧ opnL (rows ++ [x]) k rows.length 0 = true ∧ restL rows k rows.length 0 = rstL (rows ++ [x]) k rows.length 0 := by
  have hl := (open_lt hk).1
  obtain ⟨o1, o2⟩ := opn_of (Nat.le_refl _) hk fun s hs f hf e => by have := h.refs f hf k e; omega
  have hb : befL (rows ++ [x]) k rows.length 0 = befL rows k rows.length 0 := by
    unfold befL
    rw [snoc_sum _ (Nat.le_refl _), snoc_end, rowAt_big (Nat.le_refl _)]
    congr 1
    rw [if_neg (show ¬ isCall .closed = true from Bool.false_ne_true)]
    rcases hx with hx | hx
    · rw [if_pos hx]; rfl
    · split
      · rfl
      · rename_i hc
        rw [hx]
        exact lots_any _ (by simpa using hc) rfl
  obtain ⟨e1, e2⟩ := snoc_opn_of (x := x) (k := k) (Nat.le_refl _) hb
  exact ⟨hl, by rw [e1]; exact o1, by rw [e2 hl]; exact o2⟩
theorem pick_pair {α : Type} {R : α → α → Prop} {xs : List α} (h : xs.Pairwise R) {d : Int} (hd : 0 ≤ d) : (pickD xs (some d) none (some 2)).Pairwise R := by
  unfold pickD sliceRange
  have hst : (sliceBounds (some d) none (some 2) xs.length).2.2 = 2 := rfl
  have h0 : 0 ≤ (sliceBounds (some d) none (some 2) xs.length).1 := by
    unfold sliceBounds
    simp only [Option.getD_some]
    split <;> (split <;> omega)
  rw [hst]
  generalize (sliceBounds (some d) none (some 2) xs.length).1 = a at h0
  rw [List.pairwise_filterMap, List.pairwise_map]
  refine List.pairwise_lt_range.imp ?_
  intro i j hij b hb c hc
  rw [List.pairwise_iff_getElem] at h
  obtain ⟨h1, e1⟩ := List.getElem?_eq_some_iff.mp hb
  obtain ⟨h2, e2⟩ := List.getElem?_eq_some_iff.mp hc
  rw [← e1, ← e2]
  exact h _ _ h1 h2 (by omega)
theorem goods_pair (rows : List Row) (p : Int) : (goodL rows p).Pairwise (· < ·) := by
  unfold goodL openL ordersL
  exact ((List.pairwise_lt_range.filter _).filter _).filter _
theorem row_ok (h : Good rows) (hg : ∀ r ∈ rows, GR r) (hx : RowBy rows x) : RowOk (rows ++ [x]) rows.length x := by
  have hsh : shtL (rows ++ [x]) rows.length = shutL rows rows.length := by rw [snoc_sht (Nat.le_refl _), sht_of (Nat.le_refl _)]
  cases hx with
  | @call p ps hs h1 h2 hc =>
    refine .call (by rw [hsh]; exact hs) (.inl ⟨p, rfl, by omega⟩) ?_ fun q hq => ?_
    · obtain ⟨d, h3, h4, e⟩ := hc.names
      have h5 := pick_pair (goods_pair rows p) h3
      have h6 : ((pickD (goodL rows p) (some d) none (some 2)).map fun (k : Nat) => (k : Int)).Pairwise (· < ·) := by
        rw [List.pairwise_map]
        exact h5.imp fun h => by omega
      rw [← e, List.pairwise_map] at h6
      exact h6
    · obtain ⟨k, e, hk, h3, h4⟩ := hc.sizes q hq
      obtain ⟨hk2, hk3⟩ := List.mem_filter.mp hk
      obtain ⟨l, o1, o2⟩ := here_opn (x := .call (some p) ps) h hk2 (.inl rfl)
      refine ⟨⟨k, e, o1, by omega, fun i hi => ?_⟩, h3⟩
      cases hi
      rw [snoc_at l]
      unfold goodP at hk3
      unfold withinL
      simp only [Bool.or_eq_true, beq_iff_eq, decide_eq_true_eq] at hk3
      split
      · rename_i hb
        rw [hb] at hk3
        rw [decide_eq_true_eq]
        rcases hk3 with hk3 | hk3
        · exact of_decide_eq_true hk3
        · omega
      · rename_i hb
        rw [Bool.not_eq_true] at hb
        rw [hb] at hk3
        rw [decide_eq_true_eq]
        rcases hk3 with hk3 | hk3
        · have := of_decide_eq_false hk3; omega
        · omega
  | nocall hs => exact .call (by rw [hsh]; exact hs) (.inr ⟨rfl, rfl⟩) List.Pairwise.nil fun q hq => by cases hq
  | @cancel k hk => exact .cancel (here_opn (x := .cancel k) h hk (.inr rfl)).2.1
  | @prints fs hs hf hl =>
    obtain ⟨f1, _⟩ := fills_ok (x := .prints fs) h hg rfl hf (fun e => by cases e) (fun s e => by cases e)
    exact .prints (fun e => hs (by rw [← hsh]; exact e)) f1
  | @order m s p z fs hm hs h1 h2 h3 h4 hc hf hl =>
    obtain ⟨f1, f2⟩ := fills_ok (x := .order m s p z fs) h hg rfl hf (fun _ => h1) (fun s' e => by cases e; exact hs)
    refine .order ?_ hs (by omega) h3 (fun e => hc (by rw [← hsh]; exact e)) f1 (f2 s rfl)
    rcases hm with rfl | rfl | rfl
    · exact .inl rfl
    · exact .inr (.inl rfl)
    · exact .inr (.inr (.inl rfl))
end
theorem RowsBy.good {rows : List Row} (h : RowsBy rows) (hl : rows.length ≤ 31) : Good rows := by
  induction h with
  | nil => exact .nil
  | shut => exact .shut
  | @snoc rows x h hx ih =>
    rw [List.length_append, List.length_singleton] at hl
    have hg := h.gr (by omega)
    have g := ih (by omega)
    exact g.snoc (row_ok g hg hx) (row_gr hg (by omega) hx).ok (by omega)
end Gn
set_option Elab.async false
set_option linter.all false
set_option maxRecDepth 100000
namespace Gn
open PySem PySem.Spec PyProof.Rows L2 FS
def b_is_integer : B := (cRet (cAnd (cIsi "int" (cVar 0)) (cNot (cIsi "bool" (cVar 0)))))
def F_is_integer : Fn := settled (runFn 1 1 b_is_integer)
def b_is_number : B := (cRet (cAnd (cCall F_is_integer [] (cCons (cVar 0) cNil)) (cBin geO (cVar 0) (cC (.int 0)))))
def F_is_number : Fn := settled (runFn 1 1 b_is_number)
def b_is_size : B := (cRet (cAnd (cCall F_is_integer [] (cCons (cVar 0) cNil)) (cBin geO (cVar 0) (cC (.int 1)))))
def F_is_size : Fn := settled (runFn 1 1 b_is_size)
def b_is_name : B := (cSeq (cIfS (cOrT (cNotT (cTest (cIsi "str" (cVar 0)))) (cNotT (cTest (cChain leO leO (cC (.int 1)) (cOp lenO (cCons (cVar 0) cNil)) (cC (.int 8)))))) (cRet (cC (.bl false))) cNx)
    (cRet (cOp allO (cCons (cLc (sSeq (cVar 0)) (gNm 1) cYes (cBin (inO false) (cVar 1) (cC (.str "abcdefghijklmnopqrstuvwxyz"))) [1]) cNil))))
def F_is_name : Fn := settled (runFn 1 2 b_is_name)
def b_is_side : B := (cRet (cAnd (cIsi "str" (cVar 0)) (cBin (inO false) (cVar 0) (cC (.tup [.str "buy", .str "sell"])))))
def F_is_side : Fn := settled (runFn 1 1 b_is_side)
def b_is_rule : B := (cRet (cAnd (cIsi "str" (cVar 0)) (cBin (inO false) (cVar 0) (cC (.tup [.str "time", .str "late", .str "price"])))))
def F_is_rule : Fn := settled (runFn 1 1 b_is_rule)
def b_is_fill : B := (cSeq (cIfS (cOrT (cNotT (cTest (cIsi "tuple" (cVar 0)))) (cOrT (cTest (cBin (eqO true) (cOp lenO (cCons (cVar 0) cNil)) (cC (.int 3)))) (cOrT (cNotT (cTest (cCall F_is_size [] (cCons (cBin ixO (cVar 0) (cC (.int 0))) cNil)))) (cNotT (cTest (cCall F_is_size [] (cCons (cBin ixO (cVar 0) (cC (.int 1))) cNil))))))) (cRet (cC (.bl false))) cNx)
    (cRet (cOr (cBin (isO false) (cBin ixO (cVar 0) (cC (.int 2))) (cC .non)) (cCall F_is_number [] (cCons (cBin ixO (cVar 0) (cC (.int 2))) cNil)))))
def F_is_fill : Fn := settled (runFn 1 1 b_is_fill)
def b_are_fills : B := (cRet (cAnd (cIsi "tuple" (cVar 0)) (cOp allO (cCons (cLc (sSeq (cVar 0)) (gNm 1) cYes (cCall F_is_fill [] (cCons (cVar 1) cNil)) [1]) cNil))))
def F_are_fills : Fn := settled (runFn 1 2 b_are_fills)
def b_is_pair : B := (cRet (cAnd (cIsi "tuple" (cVar 0)) (cAnd (cBin (eqO false) (cOp lenO (cCons (cVar 0) cNil)) (cC (.int 2))) (cAnd (cCall F_is_number [] (cCons (cBin ixO (cVar 0) (cC (.int 0))) cNil)) (cCall F_is_size [] (cCons (cBin ixO (cVar 0) (cC (.int 1))) cNil))))))
def F_is_pair : Fn := settled (runFn 1 1 b_is_pair)
def b_are_pairs : B := (cSeq (cIfS (cOrT (cNotT (cTest (cIsi "tuple" (cVar 0)))) (cNotT (cTest (cOp allO (cCons (cLc (sSeq (cVar 0)) (gNm 1) cYes (cCall F_is_pair [] (cCons (cVar 1) cNil)) [1]) cNil))))) (cRet (cC (.bl false))) cNx)
    (cRet (cOp allO (cCons (cLc (sZip (cCons (cVar 0) (cCons (cSl (cVar 0) (cP (cC (.int 1))) cNoP) cNil))) (gTp ((gNm 1) :: ((gNm 2) :: []))) cYes (cBin ltO (cBin ixO (cVar 1) (cC (.int 0))) (cBin ixO (cVar 2) (cC (.int 0)))) [1, 2]) cNil))))
def F_are_pairs : Fn := settled (runFn 1 3 b_are_pairs)
def b_is_order_row : B := (cSeq (cIfS (cOrT (cTest (cBin (eqO true) (cOp lenO (cCons (cVar 0) cNil)) (cC (.int 6)))) (cOrT (cNotT (cTest (cCall F_is_name [] (cCons (cBin ixO (cVar 0) (cC (.int 1))) cNil)))) (cNotT (cTest (cCall F_is_side [] (cCons (cBin ixO (cVar 0) (cC (.int 2))) cNil)))))) (cRet (cC (.bl false))) cNx)
    (cRet (cAnd (cCall F_is_size [] (cCons (cBin ixO (cVar 0) (cC (.int 3))) cNil)) (cAnd (cCall F_is_size [] (cCons (cBin ixO (cVar 0) (cC (.int 4))) cNil)) (cCall F_are_fills [] (cCons (cBin ixO (cVar 0) (cC (.int 5))) cNil))))))
def F_is_order_row : Fn := settled (runFn 1 1 b_is_order_row)
def b_is_call_row : B := (cSeq (cIfS (cOrT (cTest (cBin (eqO true) (cOp lenO (cCons (cVar 0) cNil)) (cC (.int 3)))) (cNotT (cTest (cCall F_are_pairs [] (cCons (cBin ixO (cVar 0) (cC (.int 2))) cNil))))) (cRet (cC (.bl false))) cNx)
    (cRet (cOr (cCall F_is_size [] (cCons (cBin ixO (cVar 0) (cC (.int 1))) cNil)) (cAnd (cBin (isO false) (cBin ixO (cVar 0) (cC (.int 1))) (cC .non)) (cBin (eqO false) (cBin ixO (cVar 0) (cC (.int 2))) (cTup cNil))))))
def F_is_call_row : Fn := settled (runFn 1 1 b_is_call_row)
def b_is_row : B := (cSeq (cIfS (cOrT (cNotT (cTest (cIsi "tuple" (cVar 0)))) (cOrT (cTest (cBin (eqO false) (cOp lenO (cCons (cVar 0) cNil)) (cC (.int 0)))) (cNotT (cTest (cIsi "str" (cBin ixO (cVar 0) (cC (.int 0)))))))) (cRet (cC (.bl false))) cNx)
    (cMatch (cBin ixO (cVar 0) (cC (.int 0))) (fun d => cCase d "order" (cRet (cCall F_is_order_row [] (cCons (cVar 0) cNil))) ((fun d => cCase d "cancel" (cRet (cAnd (cBin (eqO false) (cOp lenO (cCons (cVar 0) cNil)) (cC (.int 2))) (cCall F_is_number [] (cCons (cBin ixO (cVar 0) (cC (.int 1))) cNil)))) ((fun d => cCase d "prints" (cRet (cAnd (cBin (eqO false) (cOp lenO (cCons (cVar 0) cNil)) (cC (.int 2))) (cCall F_are_fills [] (cCons (cBin ixO (cVar 0) (cC (.int 1))) cNil)))) ((fun d => cCase d "closed" (cRet (cBin (eqO false) (cOp lenO (cCons (cVar 0) cNil)) (cC (.int 1)))) ((fun d => cCase d "call" (cRet (cCall F_is_call_row [] (cCons (cVar 0) cNil))) ((fun _ => (cRet (cC (.bl false)))) d)) d)) d)) d)) d))))
def F_is_row : Fn := settled (runFn 1 1 b_is_row)
def b_fills_in : B := (cSeq (cIfS (cTest (cBin (eqO false) (cBin ixO (cVar 0) (cC (.int 0))) (cC (.str "order")))) (cRet (cBin ixO (cVar 0) (cC (.int 5)))) cNx)
    (cRet (cIf (cTest (cBin (eqO false) (cBin ixO (cVar 0) (cC (.int 0))) (cC (.str "prints")))) (cBin ixO (cVar 0) (cC (.int 1))) (cTup cNil))))
def F_fills_in : Fn := settled (runFn 1 1 b_fills_in)
def b_lots_in : B := (cSeq (cIfS (cTest (cBin (eqO false) (cBin ixO (cBin ixO (cVar 0) (cVar 2)) (cC (.int 0))) (cC (.str "call")))) (cRet (cOp sumO (cCons (cLc (sSeq (cBin ixO (cBin ixO (cVar 0) (cVar 2)) (cC (.int 2)))) (gTp ((gNm 4) :: ((gNm 5) :: []))) (cTest (cBin (eqO false) (cVar 4) (cVar 1))) (cVar 5) [4, 5]) cNil))) cNx)
    (cRet (cOp sumO (cCons (cLc (sSeq (cVar 3)) (gTp ((gNm 6) :: ((gNm 5) :: ((gNm 4) :: [])))) (cOrT (cTest (cBin (eqO false) (cVar 4) (cVar 1))) (cTest (cBin (eqO false) (cVar 2) (cVar 1)))) (cVar 5) [6, 5, 4]) cNil))))
def F_lots_in : Fn := settled (runFn 4 7 b_lots_in)
def b_lots_before : B := (cSeq (cSet 4 (cOp sumO (cCons (cLc (sRng1 (cCons (cVar 2) cNil)) (gNm 5) cYes (cCall F_lots_in [] (cCons (cVar 0) (cCons (cVar 1) (cCons (cVar 5) (cCons (cCall F_fills_in [] (cCons (cBin ixO (cVar 0) (cVar 5)) cNil)) cNil))))) [5]) cNil)))
    (cSeq (cIfS (cAndT (cTest (cBin ltO (cVar 2) (cOp lenO (cCons (cVar 0) cNil)))) (cTest (cBin (eqO true) (cBin ixO (cBin ixO (cVar 0) (cVar 2)) (cC (.int 0))) (cC (.str "call"))))) (cSet 4 (cBin addO (cVar 4) (cCall F_lots_in [] (cCons (cVar 0) (cCons (cVar 1) (cCons (cVar 2) (cCons (cSl (cCall F_fills_in [] (cCons (cBin ixO (cVar 0) (cVar 2)) cNil)) cNoP (cP (cVar 3))) cNil))))))) cNx)
    (cRet (cVar 4))))
def F_lots_before : Fn := settled (runFn 4 6 b_lots_before)
def b_rest_of : B := (cRet (cBin subO (cBin ixO (cBin ixO (cVar 0) (cVar 1)) (cC (.int 4))) (cCall F_lots_before [] (cCons (cVar 0) (cCons (cVar 1) (cCons (cVar 2) (cCons (cVar 3) cNil)))))))
def F_rest_of : Fn := settled (runFn 4 4 b_rest_of)
def b_is_open : B := (cSeq (cIfS (cOrT (cTest (cBin geO (cVar 1) (cVar 2))) (cOrT (cTest (cBin (eqO true) (cBin ixO (cBin ixO (cVar 0) (cVar 1)) (cC (.int 0))) (cC (.str "order")))) (cTest (cBin (inA false) (cTup (cCons (cC (.str "cancel")) (cCons (cVar 1) cNil))) (cSl (cVar 0) cNoP (cP (cVar 2))))))) (cRet (cC (.bl false))) cNx)
    (cRet (cBin gtO (cCall F_rest_of [] (cCons (cVar 0) (cCons (cVar 1) (cCons (cVar 2) (cCons (cVar 3) cNil))))) (cC (.int 0)))))
def F_is_open : Fn := settled (runFn 4 4 b_is_open)
def b_is_shut : B := (cSeq (cIfS (cOrT (cTest (cBin (eqO false) (cVar 1) (cC (.int 0)))) (cTest (cBin (eqO true) (cBin ixO (cBin ixO (cVar 0) (cC (.int 0))) (cC (.int 0))) (cC (.str "closed"))))) (cRet (cC (.bl false))) cNx)
    (cRet (cOp allO (cCons (cLc (sSeq (cSl (cVar 0) cNoP (cP (cVar 1)))) (gNm 2) cYes (cBin (eqO true) (cBin ixO (cVar 2) (cC (.int 0))) (cC (.str "call"))) [2]) cNil))))
def F_is_shut : Fn := settled (runFn 2 3 b_is_shut)
def b_members_of : B := (cRet (cOp tupleO (cCons (cSortS (sSeq (cBin ixO (cVar 0) (cC (.int 1)))) (gNm 1) (cTest (cBin (eqO false) (cBin ixO (cVar 1) (cC (.int 0))) (cC (.str "order")))) (cBin ixO (cVar 1) (cC (.int 1))) [1]) cNil)))
def F_members_of : Fn := settled (runFn 1 2 b_members_of)
def b_orders_of : B := (cRet (cOp tupleO (cCons (cLc (sEnum (cCons (cBin ixO (cVar 0) (cC (.int 1))) cNil)) (gTp ((gNm 1) :: ((gNm 2) :: []))) (cTest (cBin (eqO false) (cBin ixO (cVar 2) (cC (.int 0))) (cC (.str "order")))) (cVar 1) [1, 2]) cNil)))
def F_orders_of : Fn := settled (runFn 1 3 b_orders_of)
def b_require_order : B := (cIfS (cOrT (cNotT (cTest (cCall F_is_number [] (cCons (cVar 1) cNil)))) (cTest (cBin (inO true) (cVar 1) (cCall F_orders_of [] (cCons (cVar 0) cNil))))) bNone cNx)
def F_require_order : Fn := settled (runFn 2 2 b_require_order)
def b_is_place : B := (cSeq (cSet 3 (cBin ixO (cVar 0) (cC (.int 1))))
    (cSeq (cIfS (cOrT (cNotT (cTest (cCall F_is_number [] (cCons (cVar 1) cNil)))) (cOrT (cNotT (cTest (cCall F_is_number [] (cCons (cVar 2) cNil)))) (cTest (cBin gtO (cVar 1) (cOp lenO (cCons (cVar 3) cNil)))))) (cRet (cC (.bl false))) cNx)
    (cRet (cOr (cBin (eqO false) (cVar 2) (cC (.int 0))) (cAnd (cBin ltO (cVar 1) (cOp lenO (cCons (cVar 3) cNil))) (cBin ltO (cVar 2) (cOp lenO (cCons (cCall F_fills_in [] (cCons (cBin ixO (cVar 3) (cVar 1)) cNil)) cNil))))))))
def F_is_place : Fn := settled (runFn 3 4 b_is_place)
def b_require_place : B := (cIfS (cNotT (cTest (cCall F_is_place [] (cCons (cVar 0) (cCons (cVar 1) (cCons (cVar 2) cNil)))))) bNone cNx)
def F_require_place : Fn := settled (runFn 3 3 b_require_place)
def b_order_at : B := (cSeq (cDrop (cCall F_require_order [] (cCons (cVar 0) (cCons (cVar 1) cNil))))
    (cRet (cSl (cBin ixO (cBin ixO (cVar 0) (cC (.int 1))) (cVar 1)) (cP (cC (.int 1))) (cP (cC (.int 5))))))
def F_order_at : Fn := settled (runFn 2 2 b_order_at)
def b_rest_at : B := (cSeq (cDrop (cCall F_require_order [] (cCons (cVar 0) (cCons (cVar 1) cNil))))
    (cSeq (cDrop (cCall F_require_place [] (cCons (cVar 0) (cCons (cVar 2) (cCons (cVar 3) cNil)))))
    (cRet (cCall F_rest_of [] (cCons (cBin ixO (cVar 0) (cC (.int 1))) (cCons (cVar 1) (cCons (cVar 2) (cCons (cVar 3) cNil))))))))
def F_rest_at : Fn := settled (runFn 4 4 b_rest_at)
def b_open_at : B := (cSeq (cDrop (cCall F_require_place [] (cCons (cVar 0) (cCons (cVar 1) (cCons (cVar 2) cNil)))))
    (cRet (cOp tupleO (cCons (cLc (sSeq (cCall F_orders_of [] (cCons (cVar 0) cNil))) (gNm 3) (cTest (cCall F_is_open [] (cCons (cBin ixO (cVar 0) (cC (.int 1))) (cCons (cVar 3) (cCons (cVar 1) (cCons (cVar 2) cNil)))))) (cVar 3) [3]) cNil))))
def F_open_at : Fn := settled (runFn 3 4 b_open_at)
def b_prints_of : B := (cSeq (cSet 1 (cNew cNil))
    (cSeq (cFor (sEnum (cCons (cBin ixO (cVar 0) (cC (.int 1))) cNil)) (gTp ((gNm 2) :: ((gNm 3) :: []))) (cDrop (cMeth isL extO (cVar 1) (cCons (cLc (sEnum (cCons (cCall F_fills_in [] (cCons (cVar 3) cNil)) cNil)) (gTp ((gNm 4) :: ((gNm 5) :: []))) cYes (cTup (cCons (cVar 2) (cCons (cVar 4) (cCons (cBin ixO (cVar 5) (cC (.int 0))) (cCons (cBin ixO (cVar 5) (cC (.int 1))) cNil))))) [4, 5]) cNil))))
    (cRet (cOp tupleO (cCons (cVar 1) cNil)))))
def F_prints_of : Fn := settled (runFn 1 6 b_prints_of)
def b_traded : B := (cSeq (cDrop (cCall F_require_order [] (cCons (cVar 0) (cCons (cVar 1) cNil))))
    (cRet (cBin subO (cBin ixO (cBin ixO (cBin ixO (cVar 0) (cC (.int 1))) (cVar 1)) (cC (.int 4))) (cCall F_rest_of [] (cCons (cBin ixO (cVar 0) (cC (.int 1))) (cCons (cVar 1) (cCons (cOp lenO (cCons (cBin ixO (cVar 0) (cC (.int 1))) cNil)) (cCons (cC (.int 0)) cNil))))))))
def F_traded : Fn := settled (runFn 2 2 b_traded)
def b_strange_fills : B := (cRet (cOp tupleO (cCons (cLc (sSeq (cVar 0)) (gTp ((gNm 2) :: ((gNm 3) :: ((gNm 4) :: [])))) cYes (cTup (cCons (cVar 2) (cCons (cVar 3) (cCons (cIf (cTest (cBin (inO false) (cVar 4) (cVar 1))) (cVar 4) (cC .non)) cNil)))) [2, 3, 4]) cNil)))
def F_strange_fills : Fn := settled (runFn 2 5 b_strange_fills)
def b_seen_row : B := (cMatch (cBin ixO (cVar 0) (cC (.int 0))) (fun d => cCase d "order" (cSeq (cSet 3 (cCall F_strange_fills [] (cCons (cBin ixO (cVar 0) (cC (.int 5))) (cCons (cVar 2) cNil))))
    (cRet (cIf (cTest (cBin (inO false) (cVar 1) (cVar 2))) (cTup (cStar (cSl (cVar 0) cNoP (cP (cC (.int 5)))) (cCons (cVar 3) cNil))) (cTup (cCons (cC (.str "prints")) (cCons (cVar 3) cNil)))))) ((fun d => cCase d "cancel" (cRet (cIf (cTest (cBin (inO false) (cBin ixO (cVar 0) (cC (.int 1))) (cVar 2))) (cVar 0) (cTup (cCons (cC (.str "prints")) (cCons (cTup cNil) cNil))))) ((fun d => cCase d "prints" (cRet (cTup (cCons (cC (.str "prints")) (cCons (cCall F_strange_fills [] (cCons (cBin ixO (cVar 0) (cC (.int 1))) (cCons (cVar 2) cNil))) cNil)))) ((fun d => cCase d "call" (cRet (cTup (cStar (cSl (cVar 0) cNoP (cP (cC (.int 2)))) (cCons (cOp tupleO (cCons (cLc (sSeq (cBin ixO (cVar 0) (cC (.int 2)))) (gNm 4) (cTest (cBin (inO false) (cBin ixO (cVar 4) (cC (.int 0))) (cVar 2))) (cVar 4) [4]) cNil)) cNil)))) ((fun _ => (cRet (cVar 0))) d)) d)) d)) d)))
def F_seen_row : Fn := settled (runFn 3 5 b_seen_row)
def b_seen : B := (cSeq (cSet 2 (cCall F_members_of [] (cCons (cVar 0) cNil)))
    (cSeq (cFor (sSeq (cVar 1)) (gNm 3) (cIfS (cOrT (cNotT (cTest (cIsi "str" (cVar 3)))) (cTest (cBin (inO true) (cVar 3) (cVar 2)))) bNone cNx))
    (cSeq (cAsg (cVar 0) (gTp ((gNm 4) :: ((gNm 5) :: []))))
    (cSeq (cSet 6 (cLc (sSeq (cCall F_orders_of [] (cCons (cVar 0) cNil))) (gNm 7) (cTest (cBin (inO false) (cBin ixO (cBin ixO (cVar 5) (cVar 7)) (cC (.int 1))) (cVar 1))) (cVar 7) [7]))
    (cRet (cTup (cCons (cVar 4) (cCons (cOp tupleO (cCons (cLc (sEnum (cCons (cVar 5) cNil)) (gTp ((gNm 8) :: ((gNm 9) :: []))) cYes (cCall F_seen_row [] (cCons (cVar 9) (cCons (cVar 8) (cCons (cVar 6) cNil)))) [8, 9]) cNil)) cNil))))))))
def F_seen : Fn := settled (runFn 2 10 b_seen)
def b_with_rule : B := (cSeq (cIfS (cNotT (cTest (cCall F_is_rule [] (cCons (cVar 1) cNil)))) bNone cNx)
    (cRet (cTup (cCons (cVar 1) (cCons (cBin ixO (cVar 0) (cC (.int 1))) cNil)))))
def F_with_rule : Fn := settled (runFn 2 2 b_with_rule)
def b_cut : B := (cSeq (cIfS (cOrT (cNotT (cTest (cCall F_is_number [] (cCons (cVar 1) cNil)))) (cTest (cBin gtO (cVar 1) (cOp lenO (cCons (cBin ixO (cVar 0) (cC (.int 1))) cNil))))) bNone cNx)
    (cRet (cTup (cCons (cBin ixO (cVar 0) (cC (.int 0))) (cCons (cSl (cBin ixO (cVar 0) (cC (.int 1))) cNoP (cP (cVar 1))) cNil)))))
def F_cut : Fn := settled (runFn 2 2 b_cut)
def b_require : B := (cIfS (cNotT (cTest (cVar 0))) bNone cNx)
def F_require : Fn := settled (runFn 3 3 b_require)
def b_has_shape : B := (cSeq (cIfS (cOrT (cNotT (cTest (cIsi "tuple" (cVar 0)))) (cOrT (cTest (cBin (eqO true) (cOp lenO (cCons (cVar 0) cNil)) (cC (.int 2)))) (cOrT (cNotT (cTest (cCall F_is_rule [] (cCons (cBin ixO (cVar 0) (cC (.int 0))) cNil)))) (cNotT (cTest (cIsi "tuple" (cBin ixO (cVar 0) (cC (.int 1))))))))) (cRet (cC (.bl false))) cNx)
    (cRet (cOp allO (cCons (cLc (sSeq (cBin ixO (cVar 0) (cC (.int 1)))) (gNm 1) cYes (cCall F_is_row [] (cCons (cVar 1) cNil)) [1]) cNil))))
def F_has_shape : Fn := settled (runFn 1 2 b_has_shape)
def b_is_within : B := (cRet (cIf (cTest (cBin (eqO false) (cVar 0) (cC (.str "buy")))) (cBin leO (cVar 2) (cVar 1)) (cBin geO (cVar 2) (cVar 1))))
def F_is_within : Fn := settled (runFn 3 3 b_is_within)
def b_check_closed : B := (cSeq (cSet 2 (cBin ixO (cBin ixO (cVar 0) (cVar 1)) (cC (.int 0))))
    (cSeq (cIfS (cTest (cBin (eqO false) (cVar 2) (cC (.str "closed")))) (cDrop (cCall F_require [] (cCons (cBin (eqO false) (cVar 1) (cC (.int 0))) (cCons (cC (.str "closed")) (cCons (cVar 1) cNil))))) cNx)
    (cSeq (cIfS (cTest (cBin (eqO false) (cVar 2) (cC (.str "call")))) (cDrop (cCall F_require [] (cCons (cCall F_is_shut [] (cCons (cVar 0) (cCons (cVar 1) cNil))) (cCons (cC (.str "closed")) (cCons (cVar 1) cNil))))) cNx)
    (cIfS (cTest (cCall F_is_shut [] (cCons (cVar 0) (cCons (cVar 1) cNil)))) (cDrop (cCall F_require [] (cCons (cBin (eqO false) (cOp lenO (cCons (cCall F_fills_in [] (cCons (cBin ixO (cVar 0) (cVar 1)) cNil)) cNil)) (cC (.int 0))) (cCons (cC (.str "closed")) (cCons (cVar 1) cNil))))) cNx))))
def F_check_closed : Fn := settled (runFn 2 3 b_check_closed)
def b_check_resting : B := (cSeq (cSet 3 (cBin ixO (cBin ixO (cCall F_fills_in [] (cCons (cBin ixO (cVar 0) (cVar 1)) cNil)) (cVar 2)) (cC (.int 2))))
    (cDrop (cCall F_require [] (cCons (cOr (cBin (isO false) (cVar 3) (cC .non)) (cCall F_is_open [] (cCons (cVar 0) (cCons (cVar 3) (cCons (cVar 1) (cCons (cVar 2) cNil)))))) (cCons (cC (.str "open")) (cCons (cTup (cCons (cVar 1) (cCons (cVar 2) cNil))) cNil))))))
def F_check_resting : Fn := settled (runFn 3 4 b_check_resting)
def b_check_own : B := (cSeq (cAsg (cBin ixO (cVar 0) (cVar 1)) (gTp ((gNm 3) :: ((gNm 4) :: ((gNm 5) :: ((gNm 6) :: ((gNm 7) :: ((gNm 8) :: []))))))))
    (cSeq (cAsg (cBin ixO (cVar 8) (cVar 2)) (gTp ((gNm 9) :: ((gNm 10) :: ((gNm 11) :: [])))))
    (cSeq (cDrop (cCall F_check_resting [] (cCons (cVar 0) (cCons (cVar 1) (cCons (cVar 2) cNil)))))
    (cSeq (cDrop (cCall F_require [] (cCons (cOr (cBin (isO false) (cVar 11) (cC .non)) (cBin (eqO true) (cBin ixO (cBin ixO (cVar 0) (cVar 11)) (cC (.int 2))) (cVar 5))) (cCons (cC (.str "side")) (cCons (cTup (cCons (cVar 1) (cCons (cVar 2) cNil))) cNil)))))
    (cSeq (cDrop (cCall F_require [] (cCons (cAnd (cOr (cBin (isO false) (cVar 11) (cC .non)) (cBin (eqO false) (cBin ixO (cBin ixO (cVar 0) (cVar 11)) (cC (.int 3))) (cVar 9))) (cCall F_is_within [] (cCons (cVar 5) (cCons (cVar 6) (cCons (cVar 9) cNil))))) (cCons (cC (.str "price")) (cCons (cTup (cCons (cVar 1) (cCons (cVar 2) cNil))) cNil)))))
    (cSeq (cSet 12 (cBin subO (cVar 7) (cOp sumO (cCons (cLc (sSeq (cSl (cVar 8) cNoP (cP (cVar 2)))) (gNm 13) cYes (cBin ixO (cVar 13) (cC (.int 1))) [13]) cNil))))
    (cDrop (cCall F_require [] (cCons (cAnd (cBin leO (cVar 10) (cVar 12)) (cOr (cBin (isO false) (cVar 11) (cC .non)) (cBin leO (cVar 10) (cCall F_rest_of [] (cCons (cVar 0) (cCons (cVar 11) (cCons (cVar 1) (cCons (cVar 2) cNil)))))))) (cCons (cC (.str "size")) (cCons (cTup (cCons (cVar 1) (cCons (cVar 2) cNil))) cNil)))))))))))
def F_check_own : Fn := settled (runFn 3 14 b_check_own)
def b_check_print : B := (cSeq (cAsg (cBin ixO (cBin ixO (cBin ixO (cVar 0) (cVar 1)) (cC (.int 1))) (cVar 2)) (gTp ((gNm 3) :: ((gNm 4) :: ((gNm 5) :: [])))))
    (cSeq (cDrop (cCall F_check_resting [] (cCons (cVar 0) (cCons (cVar 1) (cCons (cVar 2) cNil)))))
    (cSeq (cDrop (cCall F_require [] (cCons (cOr (cBin (isO false) (cVar 5) (cC .non)) (cBin (eqO false) (cBin ixO (cBin ixO (cVar 0) (cVar 5)) (cC (.int 3))) (cVar 3))) (cCons (cC (.str "price")) (cCons (cTup (cCons (cVar 1) (cCons (cVar 2) cNil))) cNil)))))
    (cDrop (cCall F_require [] (cCons (cOr (cBin (isO false) (cVar 5) (cC .non)) (cBin leO (cVar 4) (cCall F_rest_of [] (cCons (cVar 0) (cCons (cVar 5) (cCons (cVar 1) (cCons (cVar 2) cNil))))))) (cCons (cC (.str "size")) (cCons (cTup (cCons (cVar 1) (cCons (cVar 2) cNil))) cNil))))))))
def F_check_print : Fn := settled (runFn 3 6 b_check_print)
def b_check_call : B := (cFor (sEnum (cCons (cBin ixO (cBin ixO (cVar 0) (cVar 1)) (cC (.int 2))) cNil)) (gTp ((gNm 2) :: ((gTp ((gNm 3) :: ((gNm 4) :: []))) :: []))) (cSeq (cDrop (cCall F_require [] (cCons (cCall F_is_open [] (cCons (cVar 0) (cCons (cVar 3) (cCons (cVar 1) (cCons (cC (.int 0)) cNil))))) (cCons (cC (.str "open")) (cCons (cTup (cCons (cVar 1) (cCons (cVar 2) cNil))) cNil)))))
    (cSeq (cDrop (cCall F_require [] (cCons (cCall F_is_within [] (cCons (cBin ixO (cBin ixO (cVar 0) (cVar 3)) (cC (.int 2))) (cCons (cBin ixO (cBin ixO (cVar 0) (cVar 3)) (cC (.int 3))) (cCons (cBin ixO (cBin ixO (cVar 0) (cVar 1)) (cC (.int 1))) cNil)))) (cCons (cC (.str "price")) (cCons (cTup (cCons (cVar 1) (cCons (cVar 2) cNil))) cNil)))))
    (cDrop (cCall F_require [] (cCons (cBin leO (cVar 4) (cCall F_rest_of [] (cCons (cVar 0) (cCons (cVar 3) (cCons (cVar 1) (cCons (cC (.int 0)) cNil)))))) (cCons (cC (.str "size")) (cCons (cTup (cCons (cVar 1) (cCons (cVar 2) cNil))) cNil))))))))
def F_check_call : Fn := settled (runFn 2 5 b_check_call)
def b_check_row : B := (cSeq (cDrop (cCall F_check_closed [] (cCons (cVar 0) (cCons (cVar 1) cNil))))
    (cMatch (cBin ixO (cBin ixO (cVar 0) (cVar 1)) (cC (.int 0))) (fun d => cCase d "cancel" (cDrop (cCall F_require [] (cCons (cCall F_is_open [] (cCons (cVar 0) (cCons (cBin ixO (cBin ixO (cVar 0) (cVar 1)) (cC (.int 1))) (cCons (cVar 1) (cCons (cC (.int 0)) cNil))))) (cCons (cC (.str "open")) (cCons (cVar 1) cNil))))) ((fun d => cCase d "call" (cDrop (cCall F_check_call [] (cCons (cVar 0) (cCons (cVar 1) cNil)))) ((fun d => cCase d "order" (cFor (sRng1 (cCons (cOp lenO (cCons (cBin ixO (cBin ixO (cVar 0) (cVar 1)) (cC (.int 5))) cNil)) cNil)) (gNm 2) (cDrop (cCall F_check_own [] (cCons (cVar 0) (cCons (cVar 1) (cCons (cVar 2) cNil)))))) ((fun d => cCase d "prints" (cFor (sRng1 (cCons (cOp lenO (cCons (cBin ixO (cBin ixO (cVar 0) (cVar 1)) (cC (.int 1))) cNil)) cNil)) (gNm 2) (cDrop (cCall F_check_print [] (cCons (cVar 0) (cCons (cVar 1) (cCons (cVar 2) cNil)))))) ((fun _ => cNx) d)) d)) d)) d))))
def F_check_row : Fn := settled (runFn 2 3 b_check_row)
def b_lets_record : B := (cSeq (cDrop (cCall F_require [] (cCons (cCall F_has_shape [] (cCons (cVar 0) cNil)) (cCons (cC (.str "shape")) (cCons (cUn negO (cC (.int 1))) cNil)))))
    (cSeq (cAsg (cVar 0) (gTp ((gNm 1) :: ((gNm 2) :: []))))
    (cSeq (cFor (sRng1 (cCons (cOp lenO (cCons (cVar 2) cNil)) cNil)) (gNm 3) (cDrop (cCall F_check_row [] (cCons (cVar 2) (cCons (cVar 3) cNil)))))
    (cRet (cOp lenO (cCons (cVar 2) cNil))))))
def F_lets_record : Fn := settled (runFn 1 4 b_lets_record)
end Gn
set_option Elab.async false
set_option linter.all false
set_option maxRecDepth 100000
set_option maxHeartbeats 4000000
namespace FS
open PySem PySem.Spec PyProof.Rows L2
section
variable {ρ : Rho} {S : Sto} {f g h : G} {r : Gs} {Q : D → Sto → Prop} {Ql : List D → Sto → Prop} {Q3 : Flw → Rho → Sto → Prop} {b1 b2 : B}
theorem w_or (h : W2 (f ρ S) fun x S1 => ∃ b, x = .bl b ∧ (b = true → Q (.bl true) S1) ∧ (b = false → W2 (g ρ S1) Q)) : W2 (cOr f g ρ S) Q := by
  obtain ⟨x, S1, e1, b, rfl, q⟩ := h
  unfold cOr
  rw [e1]
  cases b with
  | true => exact ⟨_, _, rfl, q.1 rfl⟩
  | false => exact q.2 rfl
theorem w_not (h : W2 (f ρ S) fun x S1 => ∃ b, x = .bl b ∧ Q (.bl (!b)) S1) : W2 (cNot f ρ S) Q := by
  obtain ⟨x, S1, e1, b, rfl, q⟩ := h
  unfold cNot
  rw [e1]
  exact ⟨_, _, rfl, q⟩
def isiD (S : Sto) (T : String) (d : D) : Option Bool := (tyD S d).bind fun t => isiB t T
theorem w_isi {T : String} (h : W2 (f ρ S) fun x S1 => ∃ b, isiD S1 T x = some b ∧ Q (.bl b) S1) : W2 (cIsi T f ρ S) Q := by
  obtain ⟨x, S1, e1, b, e2, q⟩ := h
  unfold cIsi
  rw [e1]
  dsimp only
  unfold isiD at e2
  obtain ⟨t, e3, e4⟩ := Option.bind_eq_some_iff.mp e2
  rw [e3]
  dsimp only
  rw [e4]
  exact ⟨_, _, rfl, q⟩
theorem isi_ii {i : Int} : isiD S "int" (.int i) = some true := rfl
theorem isi_ib {i : Int} : isiD S "bool" (.int i) = some false := rfl
theorem isi_ni : isiD S "int" .non = some false := rfl
theorem isi_ss {x : Str} : isiD S "str" (.str x) = some true := rfl
theorem isi_tt {xs : List D} : isiD S "tuple" (.tup xs) = some true := rfl
theorem w_chain {o1 o2 : Op2} (h1 : W2 (f ρ S) fun x S1 => W2 (g ρ S1) fun y S2 => ∃ b, o1 S2 x y = some (.bl b) ∧ (b = true → W2 (h ρ S2) fun z S3 => W1 (o2 S3 y z) fun d => Q d S3) ∧ (b = false → Q (.bl false) S2)) : W2 (cChain o1 o2 f g h ρ S) Q := by
  obtain ⟨x, S1, e1, y, S2, e2, b, e3, q⟩ := h1
  unfold cChain
  rw [e1]
  dsimp only
  rw [e2]
  dsimp only
  rw [e3]
  cases b with
  | true =>
    obtain ⟨z, S3, e4, d, e5, q⟩ := q.1 rfl
    dsimp only
    rw [e4]
    dsimp only
    rw [e5]
    exact ⟨_, _, rfl, q⟩
  | false => exact ⟨_, _, rfl, q.2 rfl⟩
theorem w_match {b : D → B} (h : W2 (f ρ S) fun d S1 => W3 (b d ρ S1) Q3) : W3 (cMatch f b ρ S) Q3 := by
  obtain ⟨d, S1, e, q⟩ := h
  unfold cMatch
  rw [e]
  exact q
theorem w_caseT {x : Str} (k : W3 (b1 ρ S) Q3) : W3 (cCase (.str x) x b1 b2 ρ S) Q3 := by
  unfold cCase
  dsimp only
  rw [if_pos rfl]
  exact k
theorem w_caseF {x y : Str} (h : (y == x) = false) (k : W3 (b2 ρ S) Q3) : W3 (cCase (.str y) x b1 b2 ρ S) Q3 := by
  unfold cCase
  dsimp only
  rw [if_neg (by simpa using h)]
  exact k
theorem w_star (h : W2 (f ρ S) fun x S1 => ∃ xs, sqOf S1 x = some xs ∧ W2 (r ρ S1) fun ys S2 => Ql (xs ++ ys) S2) : W2 (cStar f r ρ S) Ql := by
  obtain ⟨x, S1, e, xs, e2, ys, S2, e3, q⟩ := h
  unfold cStar
  rw [e]
  dsimp only
  rw [e2]
  dsimp only
  rw [e3]
  exact ⟨_, _, rfl, q⟩
theorem w_callD {F : Fn} {ds : List D} (h : W2 (r ρ S) fun xs S1 => W2 (F (xs ++ ds) S1) Q) : W2 (cCall F ds r ρ S) Q := by
  obtain ⟨xs, S1, e, q⟩ := h
  unfold cCall
  rw [e]
  exact q
theorem brT {P R : Prop} (k : P) : (true = true → P) ∧ (true = false → R) := ⟨fun _ => k, fun h => by cases h⟩
theorem brF {P R : Prop} (k : R) : (false = true → P) ∧ (false = false → R) := ⟨(fun h => by cases h), fun _ => k⟩
theorem brd_t {p : Prop} [Decidable p] {P R : Prop} (h : p) (k : P) : (decide p = true → P) ∧ (decide p = false → R) := ⟨fun _ => k, fun e => absurd h (of_decide_eq_false e)⟩
theorem brd_f {p : Prop} [Decidable p] {P R : Prop} (h : ¬ p) (k : R) : (decide p = true → P) ∧ (decide p = false → R) := ⟨fun e => absurd (of_decide_eq_true e) h, fun _ => k⟩
theorem brn {b : Bool} {P R : Prop} (h : (b = true → R) ∧ (b = false → P)) : ((!b) = true → P) ∧ ((!b) = false → R) := by
  cases b
  · exact ⟨fun _ => h.2 rfl, fun e => by cases e⟩
  · exact ⟨(fun e => by cases e), fun _ => h.1 rfl⟩
theorem br_of {b : Bool} {P R : Prop} (c : Bool) (h : b = c) (k : (c = true → P) ∧ (c = false → R)) : (b = true → P) ∧ (b = false → R) := h ▸ k
theorem brs_t {x y : Str} {P R : Prop} (h : (x == y) = true) (k : P) : ((x == y) = true → P) ∧ ((x == y) = false → R) := ⟨fun _ => k, fun e => absurd (h.symm.trans e) (by decide)⟩
theorem brs_f {x y : Str} {P R : Prop} (h : (x == y) = false) (k : R) : ((x == y) = true → P) ∧ ((x == y) = false → R) := ⟨fun e => absurd (h.symm.trans e) (by decide), fun _ => k⟩
/-- a def that leaves the store -/
theorem run_same {np nn : Nat} {b : B} {ds : List D} {d : D} (c : Clo S) (hl : ds.length = np) (hd : FS.closed S.length d = true) (h : W3 (b (ds.map some ++ List.replicate (nn - np) none) S) fun fl _ S1 => fl = .rt d ∧ S1 = S) : settled (runFn np nn b) ds S = some (d, S) := by
  obtain ⟨fl, ρ1, S1, e, rfl, rfl⟩ := h
  refine settled_same ?_ c hd
  unfold runFn
  rw [if_pos hl, e]
theorem run_none {np nn : Nat} {b : B} {ds : List D} (c : Clo S) (hl : ds.length = np) (h : W3 (b (ds.map some ++ List.replicate (nn - np) none) S) fun fl _ S1 => (fl = .nx ∨ fl = .rt .non) ∧ S1 = S) : settled (runFn np nn b) ds S = some (.non, S) := by
  obtain ⟨fl, ρ1, S1, e, hfl, rfl⟩ := h
  refine settled_same ?_ c rfl
  unfold runFn
  rcases hfl with rfl | rfl <;> rw [if_pos hl, e]
theorem all_bools {l : List D} (h : ∀ d ∈ l, d = .bl true) : allO S [.lst l] = some (.bl true) := by
  have : ∀ l : List D, (∀ d ∈ l, d = .bl true) → ∃ bs, boolsD l = some bs ∧ bs.all id = true := by
    intro l
    induction l with
    | nil => intro _; exact ⟨[], rfl, rfl⟩
    | cons x l ih =>
      intro h
      obtain ⟨bs, e1, e2⟩ := ih fun d hd => h d (List.mem_cons_of_mem _ hd)
      have := h x List.mem_cons_self
      subst this
      exact ⟨true :: bs, by simp only [boolsD, e1, Option.map], by simp [e2]⟩
  obtain ⟨bs, e1, e2⟩ := this l h
  show (boolsD l).map _ = _
  rw [e1, Option.map_some, e2]
theorem all_map {α : Type} (p : α → Bool) (l : List α) : allO S [.lst (l.map fun x => .bl (p x))] = some (.bl (l.all p)) := by
  have : ∀ l : List α, boolsD (l.map fun x => .bl (p x)) = some (l.map p) := by
    intro l
    induction l with
    | nil => rfl
    | cons x l ih => simp only [List.map_cons, boolsD, ih, Option.map]
  show (boolsD _).map _ = _
  rw [this, Option.map_some, List.all_map]
  rfl
/-- equal data -/
theorem eq_nice {d : D} {k w : Nat} (neg : Bool) (h : Nice d k w) (hk : k ≤ 64) : eqO neg S d d = some (.bl (!neg)) := by
  have e0 := seen_nice (S := S) h
  obtain ⟨p, a, b, c, e, fw⟩ := id h
  have hs := shaped_nice h hk a
  have key : (match pyD (seen S d), pyD (seen S d) with
    | some p, some q => if SeqAt.shaped p = true ∧ SeqAt.shaped q = true then some (D.bl (if neg then !PyData.eqv p q else PyData.eqv p q)) else none
    | _, _ => none) = some (.bl (!neg)) := by
    rw [e0, a]
    dsimp only
    rw [if_pos ⟨hs, hs⟩, PySem.SeqAt.eqv_refl p c]
    cases neg <;> rfl
  cases d with
  | non => cases neg <;> rfl
  | bl b => show eqF neg _ = _; rw [beq_self_eq_true]; cases neg <;> rfl
  | int i => show eqF neg _ = _; rw [decide_eq_true rfl]; cases neg <;> rfl
  | str x => show eqF neg _ = _; rw [beq_self_eq_true]; cases neg <;> rfl
  | _ => exact key
end
end FS
set_option Elab.async false
set_option linter.all false
set_option maxRecDepth 100000
set_option maxHeartbeats 4000000
local macro_rules | `(tactic| walk_at "stp") => `(tactic| first | (with_reducible refine FS.w_seq ?_) | (with_reducible refine FS.w_set ?_) | (with_reducible refine FS.w_ret ?_) | (with_reducible refine FS.w_drop ?_) | (with_reducible refine FS.w_nx ?_) | (with_reducible refine FS.w_bin ?_) | (with_reducible refine FS.w_test ?_) | (with_reducible refine FS.w_andT ?_) | (with_reducible refine FS.w_orT ?_) | (with_reducible refine FS.w_notT ?_) | (with_reducible refine FS.w_and ?_) | (with_reducible refine FS.w_or ?_) | (with_reducible refine FS.w_not ?_) | (with_reducible refine FS.w_isi ?_) | (with_reducible refine FS.w_chain ?_) | (with_reducible refine FS.w_match ?_) | (with_reducible refine FS.w_caseT ?_) | ((with_reducible refine FS.w_caseF ?_ ?_); focus (decide +kernel)) | (with_reducible refine FS.w_star ?_) | (with_reducible refine FS.w_nil ?_) | (with_reducible refine FS.w_cons ?_) | (with_reducible refine FS.w_op ?_) | (with_reducible refine FS.w_call0 ?_) | (with_reducible refine FS.w_sl ?_) | (with_reducible refine FS.w_nop ?_) | (with_reducible refine FS.w_p ?_) | (with_reducible refine FS.w_yes ?_) | (with_reducible refine FS.w_c ?_) | (with_reducible refine FS.w_un ?_) | (with_reducible refine FS.w_par ?_) | (with_reducible refine FS.w_asg ?_) | (with_reducible refine FS.w_ifs ?_) | (with_reducible refine FS.w_if ?_) | (with_reducible refine FS.o_add ?_) | (with_reducible refine FS.o_sub ?_) | (with_reducible refine FS.o_lt ?_) | (with_reducible refine FS.o_le ?_) | (with_reducible refine FS.o_gt ?_) | (with_reducible refine FS.o_ge ?_) | (with_reducible refine FS.o_eqs ?_) | (with_reducible refine FS.o_eqi ?_) | (with_reducible refine FS.o_eqb ?_) | (with_reducible refine FS.o_nes ?_) | (with_reducible refine FS.o_nei ?_) | (with_reducible refine FS.o_isnn ?_) | (with_reducible refine FS.o_isni ?_) | (with_reducible refine FS.o_isns ?_) | (with_reducible refine FS.o_min ?_) | (with_reducible refine FS.o_int ?_) | (with_reducible refine FS.o_neg ?_) | (with_reducible refine FS.o_lenT ?_) | (with_reducible refine FS.o_lenL ?_) | (with_reducible refine FS.sq_nx ?_) | (with_reducible refine FS.sq_rt ?_) | ((with_reducible apply FS.w_var); focus exact rfl) | (with_reducible refine FS.w_tup ?_) | (with_reducible refine FS.w_lst ?_) | (with_reducible refine FS.w_new ?_) | ((with_reducible refine FS.sz_and ?_ ?_); focus (simp only [List.length_cons, List.length_nil, FS.sL] <;> omega)) | (with_reducible refine FS.w_meth ?_) | (with_reducible refine FS.w1 (FS.ix0 _ _ _) ?_) | (with_reducible refine FS.w1 (FS.ix1 _ _ _ _) ?_) | (with_reducible refine FS.w1 (FS.ix2 _ _ _ _ _) ?_) | (with_reducible refine FS.w1 (FS.ix3 _ _ _ _ _ _) ?_) | (with_reducible refine FS.w1 (FS.ix4 _ _ _ _ _ _ _) ?_) | (with_reducible refine FS.w1 (FS.ix5 _ _ _ _ _ _ _ _) ?_) | (with_reducible refine FS.brT ?_) | (with_reducible refine FS.brF ?_) | ((with_reducible apply FS.ex_rfl); focus exact rfl) | (with_reducible refine ⟨_, FS.isi_ii, ?_⟩) | (with_reducible refine ⟨_, FS.isi_ib, ?_⟩) | (with_reducible refine ⟨_, FS.isi_ni, ?_⟩) | (with_reducible refine ⟨_, FS.isi_ss, ?_⟩) | (with_reducible refine ⟨_, FS.isi_tt, ?_⟩) | (with_reducible refine FS.brn ?_) | ((with_reducible refine FS.brs_t ?_ ?_); focus (decide +kernel)) | ((with_reducible refine FS.brs_f ?_ ?_); focus (decide +kernel)) | ((with_reducible refine FS.brd_t ?_ ?_); focus (first | omega | (simp only [List.length_cons, List.length_nil, List.length_map] <;> omega))) | ((with_reducible refine FS.brd_f ?_ ?_); focus (first | omega | (simp only [List.length_cons, List.length_nil, List.length_map] <;> omega))))
local macro_rules | `(tactic| walk_at "stps") => `(tactic| repeat walk_at "stp")
namespace Gn
open PySem PySem.Spec PyProof.Rows L2 FS
section
variable {S : Sto}
theorem run_is_integer (c : Clo S) (i : Int) : F_is_integer [.int i] S = some (.bl true, S) := by
  refine run_same c rfl rfl ?_
  unfold b_is_integer
  walk_at "stps"
  exact ⟨rfl, rfl⟩
theorem run_is_integer_n (c : Clo S) : F_is_integer [.non] S = some (.bl false, S) := by
  refine run_same c rfl rfl ?_
  unfold b_is_integer
  walk_at "stps"
  exact ⟨rfl, rfl⟩
theorem run_is_number (c : Clo S) (i : Int) : F_is_number [.int i] S = some (.bl (decide (0 ≤ i)), S) := by
  refine run_same c rfl rfl ?_
  unfold b_is_number
  walk_at "stps"
  refine w2 (run_is_integer c i) ?_
  walk_at "stps"
  exact ⟨rfl, rfl⟩
theorem run_is_size (c : Clo S) (i : Int) : F_is_size [.int i] S = some (.bl (decide (1 ≤ i)), S) := by
  refine run_same c rfl rfl ?_
  unfold b_is_size
  walk_at "stps"
  refine w2 (run_is_integer c i) ?_
  walk_at "stps"
  exact ⟨rfl, rfl⟩
theorem run_is_size_n (c : Clo S) : F_is_size [.non] S = some (.bl false, S) := by
  refine run_same c rfl rfl ?_
  unfold b_is_size
  walk_at "stps"
  refine w2 (run_is_integer_n c) ?_
  walk_at "stps"
  exact ⟨rfl, rfl⟩
theorem run_is_name (c : Clo S) {m : Str} (h : Nm m) : F_is_name [.str m] S = some (.bl true, S) := by
  have hm : (m.length = 2 ∨ m.length = 3) ∧ (m.cps.toList.all fun ch => inS ⟨#[ch]⟩ "abcdefghijklmnopqrstuvwxyz") = true := by
    rcases h with rfl | rfl | rfl | rfl | rfl <;> exact ⟨by decide +kernel, by decide +kernel⟩
  obtain ⟨hl, ha⟩ := hm
  refine run_same c rfl rfl ?_
  unfold b_is_name
  walk_at "stps"
  refine w1 (a := .int m.length) ?_ ?_
  · show (if m.length ≤ sizeLine then some (D.int m.length) else none) = _
    rw [if_pos (by rw [sL]; omega)]
  refine ⟨_, rfl, ?_⟩
  walk_at "stps"
  refine w_lcsel (fun ch => .str ⟨#[ch]⟩) (fun _ => true) (fun _ => .bl true) m.cps.toList none ?_ rfl (fun ch hch => ?_) ?_
  · unfold sSeq cVar
    simp only [List.map_cons, List.cons_append, List.getElem?_cons_zero]
    rw [if_pos (by rw [sL]; omega)]
    rfl
  · refine ⟨_, rfl, ?_, fun _ => ?_⟩
    · walk_at "stps"
      exact ⟨rfl, rfl⟩
    · walk_at "stps"
      refine w1 (a := .bl true) ?_ ⟨rfl, rfl⟩
      show some (D.bl (inS _ _)) = _
      rw [List.all_eq_true.mp ha ch hch]
  · walk_at "stps"
    refine w1 (all_bools fun d hd => ?_) ⟨rfl, rfl⟩
    obtain ⟨f, _, rfl⟩ := List.mem_map.mp hd
    rfl
theorem run_is_side (c : Clo S) {m : Str} (h : m = "buy" ∨ m = "sell") : F_is_side [.str m] S = some (.bl true, S) := by
  refine settled_same ?_ c rfl
  rcases h with rfl | rfl <;> rfl
theorem run_is_rule (c : Clo S) {m : Str} (h : Rule m) : F_is_rule [.str m] S = some (.bl true, S) := by
  refine settled_same ?_ c rfl
  rcases h with rfl | rfl | rfl <;> rfl
theorem w_zip {r : Gs} {ρ : Rho} {a b : List D} (h : W2 (r ρ S) fun xs S1 => xs = [.tup a, .tup b] ∧ S1 = S) : sZip r ρ S = some (pairsD a b, none, S) := by
  obtain ⟨xs, S1, e, rfl, rfl⟩ := h
  unfold sZip
  rw [e]
def FillSh (f : Fill) : Prop := 1 ≤ f.p ∧ 1 ≤ f.z ∧ ∀ n, f.n = some n → 0 ≤ n
theorem run_is_fill (c : Clo S) {f : Fill} (h : FillSh f) : F_is_fill [f.d] S = some (.bl true, S) := by
  obtain ⟨h1, h2, h3⟩ := h
  refine run_same c rfl rfl ?_
  unfold b_is_fill Fill.d
  walk_at "stps"
  refine w2 (run_is_size c _) ?_
  walk_at "stps"
  refine w2 (run_is_size c _) ?_
  walk_at "stps"
  refine w1 (isO_oD _ _ _) ?_
  walk_at "stps"
  cases hn : f.n with
  | none => exact ⟨(fun _ => ⟨rfl, rfl⟩), fun e => by cases e⟩
  | some n =>
    refine ⟨(fun e => by cases e), fun _ => ?_⟩
    walk_at "stps"
    refine w2 (run_is_number c _) ?_
    walk_at "stps"
    rw [decide_eq_true (h3 n hn)]
    exact ⟨rfl, rfl⟩
theorem run_are_fills (c : Clo S) {fs : List Fill} (h : ∀ f ∈ fs, FillSh f) : F_are_fills [.tup (fs.map Fill.d)] S = some (.bl true, S) := by
  refine run_same c rfl rfl ?_
  unfold b_are_fills
  walk_at "stps"
  refine w_lcsel Fill.d (fun _ => true) (fun _ => .bl true) fs none (w_seqT ?_) rfl (fun f hf => ?_) ?_
  · walk_at "stps"
    exact ⟨rfl, rfl⟩
  · refine ⟨_, rfl, ?_, fun _ => ?_⟩
    · walk_at "stps"
      exact ⟨rfl, rfl⟩
    · walk_at "stps"
      exact w2 (run_is_fill c (h f hf)) ⟨rfl, rfl⟩
  · walk_at "stps"
    refine w1 (all_bools fun d hd => ?_) ⟨rfl, rfl⟩
    obtain ⟨f, _, rfl⟩ := List.mem_map.mp hd
    rfl
def PairSh (q : Int × Int) : Prop := 0 ≤ q.1 ∧ 1 ≤ q.2
theorem run_is_pair (c : Clo S) {q : Int × Int} (h : PairSh q) : F_is_pair [pD q] S = some (.bl true, S) := by
  obtain ⟨h1, h2⟩ := h
  refine run_same c rfl rfl ?_
  unfold b_is_pair pD
  walk_at "stps"
  refine w2 (run_is_number c _) ?_
  walk_at "stps"
  refine w2 (run_is_size c _) ?_
  rw [decide_eq_true h2]
  exact ⟨rfl, rfl⟩
theorem pairsD_map {α : Type} (enc : α → D) : ∀ l : List α, pairsD (l.map enc) ((l.drop 1).map enc) = ((l.zip (l.drop 1)).map fun q => .tup [enc q.1, enc q.2])
  | [] => rfl
  | [x] => rfl
  | x :: y :: l => by
    have := pairsD_map enc (y :: l)
    simp only [List.drop_succ_cons, List.drop_zero, List.map_cons, pairsD, List.zipWith_cons_cons, List.zip_cons_cons] at this ⊢
    rw [this]
theorem zip_lt : ∀ l : List (Int × Int), (l.Pairwise fun a b => a.1 < b.1) → ∀ q ∈ l.zip (l.drop 1), q.1.1 < q.2.1
  | [], _, q, hq => by cases hq
  | [x], _, q, hq => by cases hq
  | x :: y :: l, h, q, hq => by
    simp only [List.drop_succ_cons, List.drop_zero, List.zip_cons_cons, List.mem_cons] at hq
    obtain ⟨h1, h2⟩ := List.pairwise_cons.mp h
    rcases hq with rfl | hq
    · exact h1 y List.mem_cons_self
    · exact zip_lt (y :: l) h2 q (by simpa using hq)
theorem run_are_pairs (c : Clo S) {ps : List (Int × Int)} (h : ∀ q ∈ ps, PairSh q) (hp : ps.Pairwise fun a b => a.1 < b.1) : F_are_pairs [.tup (ps.map pD)] S = some (.bl true, S) := by
  refine run_same c rfl rfl ?_
  unfold b_are_pairs
  walk_at "stps"
  refine w_lcsel pD (fun _ => true) (fun _ => .bl true) ps none (w_seqT ?_) rfl (fun f hf => ?_) ?_
  · walk_at "stps"
    exact ⟨rfl, rfl⟩
  · refine ⟨_, rfl, ?_, fun _ => ?_⟩
    · walk_at "stps"
      exact ⟨rfl, rfl⟩
    · walk_at "stps"
      exact w2 (run_is_pair c (h f hf)) ⟨rfl, rfl⟩
  · walk_at "stps"
    refine w1 (all_bools fun d hd => ?_) ?_
    · obtain ⟨f, _, rfl⟩ := List.mem_map.mp hd
      rfl
    walk_at "stps"
    refine w_lcsel (fun q => .tup [pD q.1, pD q.2]) (fun _ => true) (fun _ => .bl true) (ps.zip (ps.drop 1)) none ?_ rfl (fun q hq => ?_) ?_
    · rw [← pairsD_map]
      refine w_zip ?_
      walk_at "stps"
      refine w1 (a := .tup ((ps.drop 1).map pD)) ?_ ?_
      · show some (D.tup (FS.cutD _ (some ((1 : Nat) : Int)) none)) = _
        rw [cut_from, List.map_drop]
      walk_at "stps"
      exact ⟨rfl, rfl⟩
    · refine ⟨_, rfl, ?_, fun _ => ?_⟩
      · walk_at "stps"
        exact ⟨rfl, rfl⟩
      · unfold pD
        walk_at "stps"
        rw [decide_eq_true (zip_lt ps hp q hq)]
        exact ⟨rfl, rfl⟩
    · walk_at "stps"
      refine w1 (all_bools fun d hd => ?_) ⟨rfl, rfl⟩
      obtain ⟨f, _, rfl⟩ := List.mem_map.mp hd
      rfl
inductive RowSh : Row → Prop
  | order {m s : Str} {p z : Int} {fs : List Fill} (hm : Nm m) (hs : s = "buy" ∨ s = "sell") (hp : 1 ≤ p) (hz : 1 ≤ z) (hf : ∀ f ∈ fs, FillSh f) : RowSh (.order m s p z fs)
  | cancel {n : Int} (h : 0 ≤ n) : RowSh (.cancel n)
  | prints {fs : List Fill} (hf : ∀ f ∈ fs, FillSh f) : RowSh (.prints fs)
  | closed : RowSh .closed
  | call {p : Option Int} {ps : List (Int × Int)} (hp : (∃ i, p = some i ∧ 1 ≤ i) ∨ (p = none ∧ ps = [])) (h : ∀ q ∈ ps, PairSh q) (hps : ps.Pairwise fun a b => a.1 < b.1) : RowSh (.call p ps)
theorem run_is_row (c : Clo S) {r : Row} (h : RowSh r) : F_is_row [r.d] S = some (.bl true, S) := by
  refine run_same c rfl rfl ?_
  unfold b_is_row
  cases h with
  | @order m s p z fs hm hs hp hz hf =>
    have e : F_is_order_row [Row.d (.order m s p z fs)] S = some (.bl true, S) := by
      refine run_same c rfl rfl ?_
      unfold b_is_order_row
      simp only [Row.d]
      walk_at "stps"
      refine w2 (run_is_name c hm) ?_
      walk_at "stps"
      refine w2 (run_is_side c hs) ?_
      walk_at "stps"
      refine w2 (run_is_size c _) ?_
      walk_at "stps"
      refine w2 (run_is_size c _) ?_
      walk_at "stps"
      exact w2 (run_are_fills c hf) ⟨rfl, rfl⟩
    simp only [Row.d] at e ⊢
    walk_at "stps"
    exact w2 e ⟨rfl, rfl⟩
  | @cancel n h =>
    simp only [Row.d]
    walk_at "stps"
    refine w2 (run_is_number c _) ?_
    rw [decide_eq_true h]
    exact ⟨rfl, rfl⟩
  | @prints fs hf =>
    simp only [Row.d]
    walk_at "stps"
    exact w2 (run_are_fills c hf) ⟨rfl, rfl⟩
  | closed =>
    simp only [Row.d]
    walk_at "stps"
    exact ⟨rfl, rfl⟩
  | @call p ps hp h hps =>
    have e : F_is_call_row [Row.d (.call p ps)] S = some (.bl true, S) := by
      refine run_same c rfl rfl ?_
      unfold b_is_call_row
      simp only [Row.d]
      walk_at "stps"
      refine w2 (run_are_pairs c h hps) ?_
      walk_at "stps"
      rcases hp with ⟨i, rfl, hi⟩ | ⟨rfl, rfl⟩
      · refine w2 (run_is_size c i) ?_
        walk_at "stps"
        exact ⟨rfl, rfl⟩
      · refine w2 (run_is_size_n c) ?_
        walk_at "stps"
        refine w1 (isO_oD _ _ none) ?_
        walk_at "stps"
        refine br_of true rfl ?_
        walk_at "stps"
        have n1 : Nice (.tup []) 1 3 := Nice.tup NiceL.nil
        refine w1 (a := .bl true) (eq_nice false n1 (by decide)) ?_
        exact ⟨rfl, rfl⟩
    simp only [Row.d] at e ⊢
    walk_at "stps"
    exact w2 e ⟨rfl, rfl⟩
theorem RowOk.sh {rows : List Row} {t : Nat} {r : Row} (h : RowOk rows t r) : RowSh r := by
  have key : ∀ fs : List Fill, (∀ i f, fs[i]? = some f → FillOk rows t i f) → ∀ f ∈ fs, FillSh f := by
    intro fs h f hf
    obtain ⟨i, hi, e⟩ := List.getElem_of_mem hf
    have k := h i f (by rw [List.getElem?_eq_getElem hi, e])
    refine ⟨k.p, k.z, fun n hn => ?_⟩
    obtain ⟨j, rfl, _⟩ := k.own n hn
    omega
  cases h with
  | order hm hs hp hz hc hf ho => exact .order hm hs hp hz (key _ hf)
  | cancel h => exact .cancel (by omega)
  | prints hc hf => exact .prints (key _ hf)
  | closed h => exact .closed
  | call hs hp hps hq =>
    refine .call hp (fun q hq1 => ?_) hps
    obtain ⟨⟨k, e, _⟩, h4⟩ := hq q hq1
    exact ⟨by omega, h4⟩
theorem run_has_shape (c : Clo S) {g : Rec} (hr : Rule g.rule) (h : ∀ r ∈ g.rows, RowSh r) : F_has_shape [g.d] S = some (.bl true, S) := by
  refine run_same c rfl rfl ?_
  unfold b_has_shape Rec.d
  walk_at "stps"
  refine w2 (run_is_rule c hr) ?_
  walk_at "stps"
  refine w_lcsel Row.d (fun _ => true) (fun _ => .bl true) g.rows none (w_seqT ?_) rfl (fun r hr => ?_) ?_
  · walk_at "stps"
    exact ⟨rfl, rfl⟩
  · refine ⟨_, rfl, ?_, fun _ => ?_⟩
    · walk_at "stps"
      exact ⟨rfl, rfl⟩
    · walk_at "stps"
      exact w2 (run_is_row c (h r hr)) ⟨rfl, rfl⟩
  · walk_at "stps"
    refine w1 (all_bools fun d hd => ?_) ⟨rfl, rfl⟩
    obtain ⟨f, _, rfl⟩ := List.mem_map.mp hd
    rfl
end
end Gn
set_option Elab.async false
set_option linter.all false
set_option maxRecDepth 100000
set_option maxHeartbeats 4000000
namespace Gn
open PySem PySem.Spec PyProof.Rows L2 FS
section
variable {S : Sto}
abbrev rowsD (rows : List Row) : D := .tup (rows.map Row.d)
theorem at_row {rows : List Row} {t : Nat} (h : t < rows.length) : ixO S (rowsD rows) (.int (t : Int)) = some (rowAt rows t).d := row_ix rfl h
theorem run_fills_in (c : Clo S) (r : Row) : F_fills_in [r.d] S = some (.tup ((fillsOf r).map Fill.d), S) := by
  refine run_same c rfl (by simp only [FS.closed]; exact closed_fills _ _) ?_
  unfold b_fills_in
  cases r with
  | _ => simp only [Row.d]; walk_at "stps"; exact ⟨rfl, rfl⟩
theorem eq_oD (neg : Bool) (o : Option Int) (n : Int) : eqO neg S (oD o) (.int n) = some (.bl (if neg then !decide (o = some n) else decide (o = some n))) := by
  cases o with
  | none =>
    have hs : SeqAt.shaped (.none) = true := by decide +kernel
    have hs2 : SeqAt.shaped (.int n) = true := rfl
    have key : eqO neg S .non (.int n) = (match pyD (FS.seen S .non), pyD (FS.seen S (.int n)) with
      | some p, some q => if SeqAt.shaped p = true ∧ SeqAt.shaped q = true then some (D.bl (if neg then !PyData.eqv p q else PyData.eqv p q)) else none
      | _, _ => none) := by cases neg <;> rfl
    show eqO neg S .non (.int n) = _
    rw [key]
    simp only [FS.seen, pyD]
    rw [if_pos ⟨hs, hs2⟩]
    have : PyData.eqv (.none) (.int n) = false := by simp only [PyData.eqv]
    rw [this]
    cases neg <;> rfl
  | some i =>
    show eqF neg _ = _
    unfold eqF
    cases neg <;> simp
theorem run_lots_in (c : Clo S) {rows : List Row} {t : Nat} (n : Int) (fs : List Fill) (ht : t < rows.length) : F_lots_in [rowsD rows, .int n, .int t, .tup (fs.map Fill.d)] S = some (.int (lotsL n t (rowAt rows t) fs), S) := by
  refine run_same c rfl rfl ?_
  unfold b_lots_in
  walk_at "stps"
  refine w1 (at_row ht) ?_
  walk_at "stps"
  refine w1 (tag_at _ _) ?_
  walk_at "stps"
  rw [tag_call]
  unfold lotsL
  refine ⟨fun hc => ?_, fun hc => ?_⟩
  · rw [if_pos hc]
    walk_at "stps"
    refine w_lcsel pD (fun q => decide (q.1 = n)) (fun q => .int q.2) (callPs (rowAt rows t)) none (w_seqT ?_) rfl (fun q hq => ?_) ?_
    · walk_at "stps"
      refine w1 (at_row ht) ?_
      walk_at "stps"
      exact w1 (callPs_at _ hc) ⟨rfl, rfl⟩
    · refine ⟨_, rfl, ?_, fun _ => ?_⟩
      · walk_at "stps"
        exact ⟨rfl, rfl⟩
      · walk_at "stps"
        exact ⟨rfl, rfl⟩
    · walk_at "stps"
      have e : ∀ l : List (Int × Int), (l.map fun q => D.int q.2) = (l.map (·.2)).map .int := fun l => by rw [List.map_map]; rfl
      rw [e]
      exact w1 (sum_ints _) ⟨rfl, rfl⟩
  · rw [if_neg (by rw [hc]; exact Bool.false_ne_true)]
    walk_at "stps"
    refine w_lcsel Fill.d (fun f => decide (f.n = some n) || decide ((t : Int) = n)) (fun f => .int f.z) fs none (w_seqT ?_) rfl (fun f hf => ?_) ?_
    · walk_at "stps"
      exact ⟨rfl, rfl⟩
    · refine ⟨_, rfl, ?_, fun _ => ?_⟩
      · walk_at "stps"
        refine w1 (eq_oD _ _ _) ?_
        walk_at "stps"
        cases e : (decide (f.n = some n))
        · walk_at "stps"
          refine br_of false rfl ?_
          walk_at "stps"
          exact ⟨by simp, rfl⟩
        · walk_at "stps"
          refine br_of true rfl ?_
          walk_at "stps"
          exact ⟨by simp, rfl⟩
      · walk_at "stps"
        exact ⟨rfl, rfl⟩
    · walk_at "stps"
      have e : ∀ l : List Fill, (l.map fun q => D.int q.z) = (l.map (·.z)).map .int := fun l => by rw [List.map_map]; rfl
      rw [e]
      exact w1 (sum_ints _) ⟨rfl, rfl⟩
theorem src_rng {r : Gs} {ρ : Rho} {n : Nat} (h : W2 (r ρ S) fun xs S1 => xs = [.int (n : Int)] ∧ S1 = S) (hn : n ≤ 1000000) : sRng1 r ρ S = some ((List.range n).map fun (k : Nat) => .int k, none, S) := by
  rw [w_src h hn, ints0]
theorem run_lots_before (c : Clo S) {rows : List Row} {t : Nat} (n i : Nat) (ht : t ≤ rows.length) (hl : rows.length ≤ 1000) : F_lots_before [rowsD rows, .int n, .int t, .int i] S = some (.int (befL rows n t i), S) := by
  refine run_same c rfl rfl ?_
  unfold b_lots_before
  walk_at "stps"
  refine w_lcsel (fun (k : Nat) => .int k) (fun _ => true) (fun r => .int (lotsL n r (rowAt rows r) (fillsOf (rowAt rows r)))) (List.range t) none (src_rng ?_ (by omega)) rfl (fun r hr => ?_) ?_
  · walk_at "stps"
    exact ⟨rfl, rfl⟩
  · have hr2 : r < rows.length := by have := List.mem_range.mp hr; omega
    refine ⟨_, rfl, ?_, fun _ => ?_⟩
    · walk_at "stps"
      exact ⟨rfl, rfl⟩
    · walk_at "stps"
      refine w1 (at_row hr2) ?_
      walk_at "stps"
      refine w2 (run_fills_in c _) ?_
      walk_at "stps"
      exact w2 (run_lots_in c _ _ hr2) ⟨rfl, rfl⟩
  · rw [List.filter_eq_self.mpr (fun _ _ => rfl)]
    have e : ∀ (l : List Nat) (g : Nat → Int), (l.map fun q => D.int (g q)) = (l.map g).map .int := fun l g => by rw [List.map_map]; rfl
    rw [e]
    walk_at "stps"
    refine w1 (sum_ints _) ?_
    walk_at "stps"
    rw [List.length_map]
    refine ⟨fun h => ?_, fun h => ?_⟩
    · have h1 : t < rows.length := by have := of_decide_eq_true h; omega
      walk_at "stps"
      refine w1 (at_row h1) ?_
      walk_at "stps"
      refine w1 (tag_at _ _) ?_
      walk_at "stps"
      rw [tag_call]
      refine ⟨fun hc => ?_, fun hc => ?_⟩
      · walk_at "stps"
        refine ⟨?_, rfl⟩
        unfold befL
        rw [if_pos hc, Int.add_zero]
      · walk_at "stps"
        refine w1 (at_row h1) ?_
        walk_at "stps"
        refine w2 (run_fills_in c _) ?_
        walk_at "stps"
        refine w1 (slice_to _ _ _) ?_
        walk_at "stps"
        rw [← List.map_take]
        refine w2 (run_lots_in c _ _ h1) ?_
        walk_at "stps"
        refine ⟨?_, rfl⟩
        unfold befL
        rw [if_neg (by rw [hc]; exact Bool.false_ne_true)]
    · have h1 : rows.length ≤ t := by have := of_decide_eq_false h; omega
      walk_at "stps"
      refine ⟨?_, rfl⟩
      unfold befL
      rw [rowAt_big h1]
      show Flw.rt _ = Flw.rt (.int (_ + lotsL n t .closed (List.take i [])))
      rw [List.take_nil]
      show Flw.rt _ = Flw.rt (.int (_ + 0))
      rw [Int.add_zero]
theorem run_rest_of (c : Clo S) {rows : List Row} {n t : Nat} (i : Nat) (ho : isOrd (rowAt rows n) = true) (ht : t ≤ rows.length) (hl : rows.length ≤ 1000) : F_rest_of [rowsD rows, .int n, .int t, .int i] S = some (.int (rstL rows n t i), S) := by
  refine run_same c rfl rfl ?_
  unfold b_rest_of
  walk_at "stps"
  refine w1 (at_row (rowAt_ord ho)) ?_
  walk_at "stps"
  refine w1 (size_at _ ho) ?_
  walk_at "stps"
  refine w2 (run_lots_before c n i ht hl) ?_
  walk_at "stps"
  exact ⟨rfl, rfl⟩
end
end Gn
set_option Elab.async false
set_option linter.all false
set_option maxRecDepth 100000
set_option maxHeartbeats 4000000
namespace Gn
open PySem PySem.Spec PyProof.Rows L2 FS
section
variable {S : Sto}
/-! ### is there such a cancel -/
def isCan (n : Int) : Row → Bool
  | .cancel m => decide (m = n)
  | _ => false
theorem pyD_row {r : Row} (h : ROk r) : ∃ ps, pyD r.d = some (.tuple (.str (tag r) :: ps)) ∧ (∀ m, r = .cancel m → ps = [.int m]) := by
  obtain ⟨p, e1, _⟩ := id (nice_row h)
  have head : ∀ (x : Str) (ds : List D), pyD (.tup (.str x :: ds)) = some p → ∃ ps, p = .tuple (.str x :: ps) ∧ pyDs ds = some ps := by
    intro x ds e
    simp only [pyD, pyDs, Option.map_eq_some_iff] at e
    obtain ⟨l, e3, e4⟩ := e
    split at e3
    · rename_i y ys h1 h2
      cases h1
      cases e3
      exact ⟨_, e4.symm, h2⟩
    · cases e3
  cases r with
  | cancel n => exact ⟨[.int n], by simp only [Row.d, pyD, pyDs, Option.map, tag], fun m e => by cases e; rfl⟩
  | order m s p z fs => obtain ⟨ps, rfl, e3⟩ := head _ _ e1; exact ⟨ps, e1, fun m e => by cases e⟩
  | prints fs => obtain ⟨ps, rfl, e3⟩ := head _ _ e1; exact ⟨ps, e1, fun m e => by cases e⟩
  | closed => obtain ⟨ps, rfl, e3⟩ := head _ _ e1; exact ⟨ps, e1, fun m e => by cases e⟩
  | call p ps => obtain ⟨ps, rfl, e3⟩ := head _ _ e1; exact ⟨ps, e1, fun m e => by cases e⟩
theorem any_can {n : Int} : ∀ (l : List Row), (∀ r ∈ l, ROk r) → ∃ ps, pyDs (l.map Row.d) = some ps ∧ anyD (.tuple [.str "cancel", .int n]) ps = l.any (isCan n)
  | [], _ => ⟨[], rfl, rfl⟩
  | r :: l, h => by
    obtain ⟨ps, e1, e2⟩ := any_can l fun x hx => h x (List.mem_cons_of_mem _ hx)
    obtain ⟨qs, e3, e4⟩ := pyD_row (h r List.mem_cons_self)
    refine ⟨.tuple (.str (tag r) :: qs) :: ps, by simp only [List.map_cons, pyDs, e3, e1], ?_⟩
    unfold anyD at e2 ⊢
    rw [List.any_cons, List.any_cons, e2]
    congr 1
    simp only [PyData.eqv, PyData.eqvAll]
    cases r with
    | cancel m =>
      rw [e4 m rfl]
      have t : (tag (.cancel m) == ("cancel" : Str)) = true := tag_cancel _
      simp only [t, PyData.eqv, PyData.eqvAll, Bool.true_and, Bool.and_true, isCan]
      rw [Bool.eq_iff_iff]
      simp
    | order => rw [show (tag _ == ("cancel" : Str)) = false from tag_cancel _]; rfl
    | prints => rw [show (tag _ == ("cancel" : Str)) = false from tag_cancel _]; rfl
    | closed => rw [show (tag _ == ("cancel" : Str)) = false from tag_cancel _]; rfl
    | call => rw [show (tag _ == ("cancel" : Str)) = false from tag_cancel _]; rfl
theorem nice_rows {l : List Row} (h : ∀ r ∈ l, ROk r) (hl : l.length ≤ 40) : Nice (.tup (l.map Row.d)) 4 (160002 * 40 + 3) := by
  refine Nice.tup ((NiceL.all (k := 3) (w := 160000) fun d hd => ?_).mono (Nat.le_refl _) ?_)
  · obtain ⟨r, hr, rfl⟩ := List.mem_map.mp hd
    exact nice_row (h r hr)
  · rw [List.length_map]
    exact Nat.mul_le_mul_left _ hl
theorem in_can {n : Nat} {l : List Row} (h : ∀ r ∈ l, ROk r) (hl : l.length ≤ 40) (hn : n < 1000) : inA false S (.tup [.str "cancel", .int n]) (.tup (l.map Row.d)) = some (.bl (l.any (isCan n))) := by
  obtain ⟨ps, e1, e2⟩ := any_can (n := n) l h
  have n1 : Nice (.tup [.str "cancel", .int n]) 3 160000 := nice_row (.cancel (n := n) (sm_bd (by omega) (by omega)))
  have n2 := nice_rows h hl
  have p1 : pyD (.tup [.str "cancel", .int n]) = some (.tuple [.str "cancel", .int n]) := by simp only [pyD, pyDs, Option.map]
  have p2 : pyD (.tup (l.map Row.d)) = some (.tuple ps) := by simp only [pyD, e1, Option.map]
  have e0 : inO false S (.tup [.str "cancel", .int n]) (.tup (l.map Row.d)) = none := by
    unfold inO
    simp only [sqOf, flatD]
  unfold inA
  rw [e0, Option.none_or]
  unfold inDO
  rw [seen_nice n1, seen_nice n2, p1, p2]
  dsimp only
  rw [if_pos ⟨shaped_nice n1 (by decide) p1, shaped_nice n2 (by decide) p2⟩, e2]
  rfl
theorem any_gone {rows : List Row} {t n : Nat} (ht : t ≤ rows.length) : (rows.take t).any (isCan n) = (goneL rows t).contains (n : Int) := by
  refine bool_iff ?_
  rw [gone_iff, take_rows ht, List.any_map, List.any_eq_true]
  constructor
  · rintro ⟨s, hs, e⟩
    refine ⟨s, List.mem_range.mp hs, ?_⟩
    simp only [Function.comp] at e
    generalize rowAt rows s = r at e
    cases r <;> simp only [isCan] at e <;> first | cases e | (rw [of_decide_eq_true e])
  · rintro ⟨s, hs, e⟩
    refine ⟨s, List.mem_range.mpr hs, ?_⟩
    simp only [Function.comp, e, isCan, decide_eq_true]
theorem run_is_open (c : Clo S) {rows : List Row} {n t : Nat} (i : Nat) (ht : t ≤ rows.length) (hl : rows.length ≤ 40) (hok : ∀ r ∈ rows, ROk r) : F_is_open [rowsD rows, .int n, .int t, .int i] S = some (.bl (opnL rows n t i), S) := by
  refine run_same c rfl rfl ?_
  unfold b_is_open
  walk_at "stps"
  unfold opnL
  refine ⟨fun h => ?_, fun h => ?_⟩
  · have : ¬ n < t := by have := of_decide_eq_true h; omega
    rw [decide_eq_false this]
    walk_at "stps"
    exact ⟨rfl, rfl⟩
  have hn : n < t := by have := of_decide_eq_false h; omega
  rw [decide_eq_true hn]
  walk_at "stps"
  refine w1 (at_row (by omega)) ?_
  walk_at "stps"
  refine w1 (tag_at _ _) ?_
  walk_at "stps"
  rw [tag_ord]
  refine ⟨fun ho => ?_, fun ho => ?_⟩
  case refine_2 =>
    rw [ho]
    walk_at "stps"
    exact ⟨rfl, rfl⟩
  rw [ho]
  walk_at "stps"
  refine w1 (slice_to _ _ _) ?_
  rw [← List.map_take]
  refine w1 (in_can (fun r hr => hok r (List.mem_of_mem_take hr)) (by rw [List.length_take]; omega) (by omega)) ?_
  walk_at "stps"
  rw [any_gone ht]
  refine ⟨fun hg => ?_, fun hg => ?_⟩
  · rw [hg]
    walk_at "stps"
    exact ⟨rfl, rfl⟩
  · rw [hg]
    walk_at "stps"
    refine w2 (run_rest_of c i ho ht (by omega)) ?_
    walk_at "stps"
    exact ⟨rfl, rfl⟩
theorem run_is_shut (c : Clo S) {rows : List Row} {t : Nat} (ht : t ≤ rows.length) : F_is_shut [rowsD rows, .int t] S = some (.bl (shtL rows t), S) := by
  refine run_same c rfl rfl ?_
  unfold b_is_shut
  walk_at "stps"
  unfold shtL
  refine ⟨fun h => ?_, fun h => ?_⟩
  · have : ¬ 0 < t := by have := of_decide_eq_true h; omega
    rw [decide_eq_false this]
    walk_at "stps"
    exact ⟨rfl, rfl⟩
  have hn : 0 < t := by have := of_decide_eq_false h; omega
  rw [decide_eq_true hn]
  walk_at "stps"
  refine w1 (at_row (t := 0) (by omega)) ?_
  walk_at "stps"
  refine w1 (tag_at _ _) ?_
  walk_at "stps"
  have tg : (tag (rowAt rows 0) == ("closed" : Str)) = isClosed (rowAt rows 0) := by
    cases rowAt rows 0 <;> (simp only [tag, isClosed]; decide +kernel)
  rw [tg]
  refine ⟨fun ho => ?_, fun ho => ?_⟩
  case refine_2 =>
    rw [ho]
    walk_at "stps"
    exact ⟨rfl, rfl⟩
  rw [ho]
  walk_at "stps"
  refine w_lcsel Row.d (fun _ => true) (fun r => .bl (!isCall r)) (rows.take t) none (w_seqT ?_) rfl (fun r hr => ?_) ?_
  · walk_at "stps"
    refine w1 (slice_to _ _ _) ?_
    rw [List.map_take]
    exact ⟨rfl, rfl⟩
  · refine ⟨_, rfl, ?_, fun _ => ?_⟩
    · walk_at "stps"
      exact ⟨rfl, rfl⟩
    · walk_at "stps"
      refine w1 (tag_at _ _) ?_
      walk_at "stps"
      rw [tag_call]
      exact ⟨rfl, rfl⟩
  · rw [List.filter_eq_self.mpr (fun _ _ => rfl)]
    walk_at "stps"
    refine w1 (all_map (fun r => !isCall r) _) ?_
    rw [take_rows ht, List.all_map]
    exact ⟨rfl, rfl⟩
/-! ### orders and members -/
theorem rec_rows (S : Sto) (g : Rec) : ixO S g.d (.int 1) = some (rowsD g.rows) := ix1 ..
theorem numD_rows {α : Type} (enc : α → D) : ∀ (l : List α) (i : Nat), numD i (l.map enc) = (l.zipIdx i).map fun q => .tup [.int (q.2 : Nat), enc q.1]
  | [], _ => rfl
  | x :: l, i => by
    simp only [List.map_cons, numD, List.zipIdx_cons, numD_rows enc l (i + 1)]
theorem src_enum {r : Gs} {ρ : Rho} {α : Type} {enc : α → D} {l : List α} (h : W2 (r ρ S) fun xs S1 => (xs = [.tup (l.map enc)] ∨ xs = [.lst (l.map enc)]) ∧ S1 = S) : sEnum r ρ S = some (l.zipIdx.map fun q => .tup [.int (q.2 : Nat), enc q.1], none, S) := by
  obtain ⟨xs, S1, e, rfl | rfl, rfl⟩ := h <;>
  · unfold sEnum
    rw [e]
    dsimp only
    rw [numD_rows]
theorem zip_ord (rows : List Row) : ((rows.zipIdx.filter fun q => isOrd q.1).map fun q => D.int (q.2 : Nat)) = (ordersL rows).map fun (k : Nat) => .int k := by
  have e : rows.zipIdx = (List.range rows.length).map fun k => (rowAt rows k, k) := by
    refine List.ext_getElem? fun s => ?_
    rw [List.getElem?_zipIdx, List.getElem?_map]
    by_cases hs : s < rows.length
    · rw [List.getElem?_range hs, rowAt_get hs]; simp
    · rw [List.getElem?_eq_none (l := List.range rows.length) (by rw [List.length_range]; omega), List.getElem?_eq_none (l := rows) (by omega)]; rfl
  rw [e, List.filter_map, List.map_map]
  rfl
theorem closed_nats (n : Nat) (l : List Nat) : closedL n (l.map fun (k : Nat) => D.int k) = true := closedL_of _ _ fun x _ => rfl
theorem run_orders_of (c : Clo S) (g : Rec) : F_orders_of [g.d] S = some (.tup ((ordersL g.rows).map fun (k : Nat) => .int k), S) := by
  refine run_same c rfl (by simp only [FS.closed]; exact closed_nats _ _) ?_
  unfold b_orders_of
  walk_at "stps"
  refine w_lcsel (fun q : Row × Nat => .tup [.int (q.2 : Nat), q.1.d]) (fun q => isOrd q.1) (fun q => .int (q.2 : Nat)) g.rows.zipIdx none (src_enum ?_) rfl (fun q hq => ?_) ?_
  · walk_at "stps"
    exact ⟨.inl rfl, rfl⟩
  · refine ⟨_, rfl, ?_, fun _ => ?_⟩
    · walk_at "stps"
      refine w1 (tag_at _ _) ?_
      walk_at "stps"
      rw [tag_ord]
      exact ⟨rfl, rfl⟩
    · walk_at "stps"
      exact ⟨rfl, rfl⟩
  · rw [zip_ord]
    walk_at "stps"
    refine w1 (tupleO_sq rfl) ?_
    exact ⟨rfl, rfl⟩
theorem name_at {r : Row} (h : isOrd r = true) : ixO S r.d (.int 1) = some (.str (nameOf r)) := by
  cases r <;> first | exact ix1 .. | cases h
theorem w_sortS {α : Type} {src : Src} {t : Tg} {cc : Gb} {f : G} {vs : List Nat} {ρ : Rho} {Q : D → Sto → Prop} (enc : α → D) (p : α → Bool) (g : α → Str) (xs : List α) (w : Option Nat)
    (hsrc : src ρ S = some (xs.map enc, w, S)) (hst : still (xs.map enc) w S = true)
    (hx : ∀ x ∈ xs, ∃ ρ1, t (enc x) (wipeR ρ vs) = some ρ1 ∧ W2 (cc ρ1 S) (fun b S2 => b = p x ∧ S2 = S) ∧ (p x = true → W2 (f ρ1 S) fun d S2 => d = .str (g x) ∧ S2 = S))
    (hl : ((xs.filter p).map g).length < 64) (k : Q (.lst ((sortT (setT ((xs.filter p).map g))).map .str)) S) : W2 (cSortS src t cc f vs ρ S) Q := by
  have h : W2 (cLc src t cc f vs ρ S) fun d S2 => d = .lst (((xs.filter p).map fun x => .str (g x))) ∧ S2 = S := w_lcsel enc p (fun x => .str (g x)) xs w hsrc hst hx ⟨rfl, rfl⟩
  obtain ⟨d, S2, e, rfl, rfl⟩ := h
  unfold cLc at e
  rw [hsrc] at e
  dsimp only at e
  split at e
  · cases e
  · rename_i ds S3 e2
    cases e
    refine ⟨_, S2, ?_, k⟩
    unfold cSortS
    rw [hsrc]
    dsimp only
    rw [e2]
    dsimp only
    have : (((xs.filter p).map fun x => D.str (g x))) = ((xs.filter p).map g).map D.str := by rw [List.map_map]; rfl
    rw [this, strsD_strs]
    dsimp only
    rw [if_pos hl]
theorem closed_strs (n : Nat) (l : List Str) : closedL n (l.map D.str) = true := closedL_of _ _ fun x _ => rfl
theorem run_members_of (c : Clo S) {g : Rec} (hl : g.rows.length ≤ 40) : F_members_of [g.d] S = some (.tup ((memsL g.rows).map .str), S) := by
  refine run_same c rfl (by simp only [FS.closed]; exact closed_strs _ _) ?_
  unfold b_members_of
  walk_at "stps"
  refine w_sortS Row.d isOrd nameOf g.rows none (w_seqT ?_) rfl (fun r hr => ?_) ?_ ?_
  · walk_at "stps"
    exact ⟨rfl, rfl⟩
  · refine ⟨_, rfl, ?_, fun ho => ?_⟩
    · walk_at "stps"
      refine w1 (tag_at _ _) ?_
      walk_at "stps"
      rw [tag_ord]
      exact ⟨rfl, rfl⟩
    · walk_at "stps"
      exact w1 (name_at ho) ⟨rfl, rfl⟩
  · rw [List.length_map]
    have := List.length_filter_le isOrd g.rows
    omega
  · walk_at "stps"
    refine w1 (tupleO_sq rfl) ?_
    exact ⟨rfl, rfl⟩
end
end Gn
set_option Elab.async false
set_option linter.all false
set_option maxRecDepth 100000
set_option maxHeartbeats 4000000
namespace Gn
open PySem PySem.Spec PyProof.Rows L2 FS
section
variable {S : Sto}
/-! ### one of a list -/
abbrev natsD (L : List Nat) : List D := L.map fun (k : Nat) => .int k
def memB (L : List Nat) : Int → Bool := fun n => (L.map fun (k : Nat) => (k : Int)).contains n
theorem natsD_ints (L : List Nat) : natsD L = (L.map fun (k : Nat) => (k : Int)).map .int := by rw [List.map_map]; rfl
theorem memB_nat (L : List Nat) (k : Nat) : memB L k = L.contains k := by
  refine bool_iff ?_
  unfold memB
  rw [List.contains_iff_mem, List.contains_iff_mem, List.mem_map]
  constructor
  · rintro ⟨j, h, e⟩
    have : j = k := by omega
    subst this
    exact h
  · exact fun h => ⟨k, h, rfl⟩
theorem in_natsL (neg : Bool) (n : Int) (L : List Nat) : inO neg S (.int n) (.lst (natsD L)) = some (.bl (if neg then !memB L n else memB L n)) := by
  rw [natsD_ints, inO_ints]
  rfl
theorem in_natsT (neg : Bool) (n : Int) (L : List Nat) : inO neg S (.int n) (.tup (natsD L)) = some (.bl (if neg then !memB L n else memB L n)) := in_natsL (S := S) neg n L
theorem in_strs (neg : Bool) (x : Str) (l : List Str) : inO neg S (.str x) (.tup (l.map .str)) = some (.bl (if neg then !l.contains x else l.contains x)) := by
  have e : ∀ l : List Str, flatDs (l.map .str) = some (l.map V.str) := by
    intro l
    induction l with
    | nil => rfl
    | cons x l ih => simp only [List.map_cons, flatDs, flatD, ih]
  have e2 : inV (.str x) (l.map V.str) = l.contains x := by
    induction l with
    | nil => rfl
    | cons y l ih =>
      unfold inV at ih ⊢
      rw [List.map_cons, List.any_cons, ih, List.contains_cons]
      congr 1
      rw [Bool.eq_iff_iff]
      simp [eqV]
      exact eq_comm
  show (match flatD (.str x), flatDs (l.map .str) with | some v, some vs => some (D.bl (if neg then !inV v vs else inV v vs)) | _, _ => none) = _
  rw [e]
  simp only [flatD]
  rw [e2]
theorem in_oD (o : Option Int) (L : List Nat) : inO false S (oD o) (.lst (natsD L)) = some (.bl (match o with | none => false | some n => memB L n)) := by
  cases o with
  | some n => exact in_natsL false n L
  | none =>
    have e : ∀ l : List Int, flatDs (l.map .int) = some (l.map V.int) := by
      intro l
      induction l with
      | nil => rfl
      | cons x l ih => simp only [List.map_cons, flatDs, flatD, ih]
    have e2 : ∀ l : List Int, inV .non (l.map V.int) = false := by
      intro l
      induction l with
      | nil => rfl
      | cons y l ih =>
        unfold inV at ih ⊢
        rw [List.map_cons, List.any_cons, ih]
        rfl
    show (match flatD .non, flatDs (natsD L) with | some v, some vs => some (D.bl (inV v vs)) | _, _ => none) = _
    rw [natsD_ints, e]
    simp only [flatD]
    rw [e2]
theorem len_rows (S : Sto) (rows : List Row) : lenO S [rowsD rows] = some (.int rows.length) := by
  rw [lenO_sq (xs := rows.map Row.d) rfl, List.length_map]
/-! ### orders and places -/
theorem run_require_order (c : Clo S) {g : Rec} {k : Nat} (h : k ∈ ordersL g.rows) : F_require_order [g.d, .int k] S = some (.non, S) := by
  refine run_none c rfl ?_
  unfold b_require_order
  walk_at "stps"
  refine w2 (run_is_number c _) ?_
  walk_at "stps"
  refine w2 (run_orders_of c g) ?_
  walk_at "stps"
  refine w1 (in_natsT _ _ _) ?_
  walk_at "stps"
  rw [memB_nat, List.contains_iff_mem.mpr h]
  refine br_of false rfl ?_
  walk_at "stps"
  exact ⟨.inl rfl, rfl⟩
theorem run_is_place (c : Clo S) {g : Rec} {t i : Nat} (ht : t ≤ g.rows.length) (hi : i = 0 ∨ (t < g.rows.length ∧ i < (fillsOf (rowAt g.rows t)).length)) : F_is_place [g.d, .int t, .int i] S = some (.bl true, S) := by
  refine run_same c rfl rfl ?_
  unfold b_is_place
  walk_at "stps"
  refine w2 (run_is_number c _) ?_
  walk_at "stps"
  refine w2 (run_is_number c _) ?_
  walk_at "stps"
  by_cases h0 : i = 0
  · walk_at "stps"
    exact ⟨rfl, rfl⟩
  · have h1 := hi.resolve_left h0
    walk_at "stps"
    refine w1 (at_row h1.1) ?_
    walk_at "stps"
    refine w2 (run_fills_in c _) ?_
    walk_at "stps"
    rw [List.length_map, decide_eq_true (by omega)]
    exact ⟨rfl, rfl⟩
theorem run_require_place (c : Clo S) {g : Rec} {t i : Nat} (ht : t ≤ g.rows.length) (hi : i = 0 ∨ (t < g.rows.length ∧ i < (fillsOf (rowAt g.rows t)).length)) : F_require_place [g.d, .int t, .int i] S = some (.non, S) := by
  refine run_none c rfl ?_
  unfold b_require_place
  walk_at "stps"
  refine w2 (run_is_place c ht hi) ?_
  walk_at "stps"
  exact ⟨.inl rfl, rfl⟩
def ordD (r : Row) : D := .tup [.str (nameOf r), .str (sideOf r), .int (priceOf r), .int (sizeOf r)]
theorem run_order_at (c : Clo S) {g : Rec} {k : Nat} (h : k ∈ ordersL g.rows) : F_order_at [g.d, .int k] S = some (ordD (rowAt g.rows k), S) := by
  refine run_same c rfl rfl ?_
  have ho := ord_mem.mp h
  unfold b_order_at
  walk_at "stps"
  refine w2 (run_require_order c h) ?_
  walk_at "stps"
  refine w1 (at_row (rowAt_ord ho)) ?_
  walk_at "stps"
  generalize rowAt g.rows k = r at ho
  cases r with
  | order m s p z fs => exact w1 (a := ordD (.order m s p z fs)) rfl ⟨rfl, rfl⟩
  | _ => cases ho
theorem run_rest_at (c : Clo S) {g : Rec} {k t i : Nat} (h : k ∈ ordersL g.rows) (ht : t ≤ g.rows.length) (hi : i = 0 ∨ (t < g.rows.length ∧ i < (fillsOf (rowAt g.rows t)).length)) (hl : g.rows.length ≤ 1000) : F_rest_at [g.d, .int k, .int t, .int i] S = some (.int (rstL g.rows k t i), S) := by
  refine run_same c rfl rfl ?_
  unfold b_rest_at
  walk_at "stps"
  refine w2 (run_require_order c h) ?_
  walk_at "stps"
  refine w2 (run_require_place c ht hi) ?_
  walk_at "stps"
  refine w2 (run_rest_of c i (ord_mem.mp h) ht hl) ?_
  exact ⟨rfl, rfl⟩
theorem run_open_at (c : Clo S) {g : Rec} {t i : Nat} (ht : t ≤ g.rows.length) (hi : i = 0 ∨ (t < g.rows.length ∧ i < (fillsOf (rowAt g.rows t)).length)) (hl : g.rows.length ≤ 40) (hok : ∀ r ∈ g.rows, ROk r) : F_open_at [g.d, .int t, .int i] S = some (.tup (natsD (opensL g.rows t i)), S) := by
  refine run_same c rfl (by simp only [FS.closed]; exact closed_nats _ _) ?_
  unfold b_open_at
  walk_at "stps"
  refine w2 (run_require_place c ht hi) ?_
  walk_at "stps"
  refine w_lcsel (fun (k : Nat) => .int k) (fun k => opnL g.rows k t i) (fun (k : Nat) => .int k) (ordersL g.rows) none (w_seqT ?_) rfl (fun k hk => ?_) ?_
  · walk_at "stps"
    exact w2 (run_orders_of c g) ⟨rfl, rfl⟩
  · refine ⟨_, rfl, ?_, fun _ => ?_⟩
    · walk_at "stps"
      refine w2 (run_is_open c i ht hl hok) ?_
      walk_at "stps"
      exact ⟨rfl, rfl⟩
    · walk_at "stps"
      exact ⟨rfl, rfl⟩
  · walk_at "stps"
    refine w1 (tupleO_sq rfl) ?_
    exact ⟨rfl, rfl⟩
theorem run_traded (c : Clo S) {g : Rec} {k : Nat} (h : k ∈ ordersL g.rows) (hl : g.rows.length ≤ 1000) : F_traded [g.d, .int k] S = some (.int (sizeOf (rowAt g.rows k) - rstL g.rows k g.rows.length 0), S) := by
  refine run_same c rfl rfl ?_
  have ho := ord_mem.mp h
  unfold b_traded
  walk_at "stps"
  refine w2 (run_require_order c h) ?_
  walk_at "stps"
  refine w1 (at_row (rowAt_ord ho)) ?_
  walk_at "stps"
  refine w1 (size_at _ ho) ?_
  walk_at "stps"
  rw [List.length_map]
  refine w2 (run_rest_of c 0 ho (Nat.le_refl _) hl) ?_
  walk_at "stps"
  exact ⟨rfl, rfl⟩
/-! ### prints -/
def prD (q : Nat × Nat × Int × Int) : D := .tup [.int q.1, .int q.2.1, .int q.2.2.1, .int q.2.2.2]
theorem closed_prs (n : Nat) (l : List (Nat × Nat × Int × Int)) : closedL n (l.map prD) = true := closedL_of _ _ fun x _ => rfl
theorem zip_range (rows : List Row) : rows.zipIdx = (List.range rows.length).map fun k => (rowAt rows k, k) := by
  refine List.ext_getElem? fun s => ?_
  rw [List.getElem?_zipIdx, List.getElem?_map]
  by_cases hs : s < rows.length
  · rw [List.getElem?_range hs, rowAt_get hs]; simp
  · rw [List.getElem?_eq_none (l := List.range rows.length) (by rw [List.length_range]; omega), List.getElem?_eq_none (l := rows) (by omega)]; rfl
theorem prints_zip (rows : List Row) : printsL rows = rows.zipIdx.flatMap fun q => rowPr q.2 q.1 := by
  rw [zip_range, List.flatMap_map]
  rfl
theorem rowPr_len {r : Row} (h : ROk r) (t : Nat) : (rowPr t r).length ≤ 8 := by
  unfold rowPr
  rw [List.length_map, List.length_zipIdx]
  cases h with
  | order h1 h2 h3 h4 h5 h6 => exact h6
  | prints h5 h6 => exact h6
  | _ => exact Nat.zero_le _
theorem ext_toL {n : Nat} {xs zs : List D} (h : S[n]? = some (.lst xs)) (hl : xs.length + zs.length ≤ sizeLine) : extO S (.ref n) [.lst zs] = some (.non, S.set n (.lst (xs ++ zs))) := by
  unfold extO
  simp only [h, lmOf, if_pos hl]
theorem run_prints_of (c : Clo S) {g : Rec} (hl : g.rows.length ≤ 40) (hok : ∀ r ∈ g.rows, ROk r) : F_prints_of [g.d] S = some (.tup ((printsL g.rows).map prD), S) := by
  have main : W2 (runFn 1 6 b_prints_of [g.d] S) fun d S' => d = .tup ((printsL g.rows).map prD) ∧ S' = S ++ [.lst ((printsL g.rows).map prD)] := by
    refine w_run rfl ?_
    unfold b_prints_of
    walk_at "stps"
    refine w_fors (S1 := S ++ [.lst []]) (fun q : Row × Nat => .tup [.int (q.2 : Nat), q.1.d]) g.rows.zipIdx none (fun pre ρ S1 => ∃ x2 x3 x4 x5, ρ = [some g.d, some (.ref S.length), x2, x3, x4, x5] ∧ S1 = S ++ [.lst ((pre.flatMap fun q => rowPr q.2 q.1).map prD)]) (src_enum ?_) ⟨_, _, _, _, rfl, rfl⟩ ?_ ?_
    · walk_at "stps"
      exact ⟨.inl rfl, rfl⟩
    · rintro pre q post e ρ S1 ⟨x2, x3, x4, x5, rfl, rfl⟩
      have hr : ROk q.1 := by
        have : q ∈ g.rows.zipIdx := by rw [e]; simp
        obtain ⟨s, hs, e2⟩ := List.getElem_of_mem this
        rw [List.getElem_zipIdx] at e2
        rw [← e2]
        exact hok _ (List.getElem_mem _)
      have hpre : ((pre.flatMap fun q => rowPr q.2 q.1).map prD).length ≤ 8 * 40 := by
        rw [List.length_map]
        have h1 := flatMap_len (fun q : Row × Nat => rowPr q.2 q.1) 8 pre fun x hx => by
          have : x ∈ g.rows.zipIdx := by rw [e]; simp [hx]
          obtain ⟨s, hs, e2⟩ := List.getElem_of_mem this
          rw [List.getElem_zipIdx] at e2
          rw [← e2]
          exact rowPr_len (hok _ (List.getElem_mem _)) _
        have h2 := congrArg List.length e
        rw [List.length_zipIdx, List.length_append, List.length_cons] at h2
        omega
      have cS : ∀ xs, Clo (S ++ [.lst (List.map prD xs)]) := fun xs => c.app (closed_prs _ _)
      refine ⟨_, rfl, ?_⟩
      walk_at "stps"
      refine ⟨isL_at (ap_at _), ?_⟩
      walk_at "stps"
      refine w_lcsel (fun p : Fill × Nat => .tup [.int (p.2 : Nat), p.1.d]) (fun _ => true) (fun p => prD (q.2, p.2, p.1.p, p.1.z)) (fillsOf q.1).zipIdx none (src_enum ?_) rfl (fun p hp => ?_) ?_
      · walk_at "stps"
        refine w2 (run_fills_in (cS _) q.1) ?_
        walk_at "stps"
        exact ⟨.inl rfl, rfl⟩
      · refine ⟨_, rfl, ?_, fun _ => ?_⟩
        · walk_at "stps"
          exact ⟨rfl, rfl⟩
        · walk_at "stps"
          exact ⟨rfl, rfl⟩
      · rw [List.filter_eq_self.mpr (fun _ _ => rfl)]
        have e3 : ((fillsOf q.1).zipIdx.map fun p => prD (q.2, p.2, p.1.p, p.1.z)) = (rowPr q.2 q.1).map prD := by
          unfold rowPr
          rw [List.map_map]
          rfl
        rw [e3]
        walk_at "stps"
        have h8 := rowPr_len hr q.2
        refine w2 (ext_toL (ap_at _) (by rw [List.length_map (as := rowPr q.2 q.1), sL]; omega)) ?_
        refine ⟨.inl rfl, rfl, _, _, _, _, rfl, ?_⟩
        rw [ap_set, List.flatMap_append, List.map_append]
        simp only [List.flatMap_cons, List.flatMap_nil, List.append_nil]
    · rintro ρ' S' ⟨x2, x3, x4, x5, rfl, rfl⟩
      rw [← prints_zip]
      walk_at "stps"
      refine w1 (tupleO_sq (sqOf_of_ls (lsOf_lm (S := S ++ [.lst ((printsL g.rows).map prD)]) (d := .ref S.length) (xs := (printsL g.rows).map prD) ?_))) ?_
      · unfold lmOf
        simp only [ap_at]
      · exact ⟨_, rfl, rfl, rfl⟩
  obtain ⟨d, S', e, rfl, rfl⟩ := main
  exact settled_app e c (by simp only [FS.closed]; exact closed_prs _ _)
/-! ### views -/
theorem run_strange_fills (c : Clo S) (fs : List Fill) (L : List Nat) : F_strange_fills [.tup (fs.map Fill.d), .lst (natsD L)] S = some (.tup ((fs.map (stF (memB L))).map Fill.d), S) := by
  refine run_same c rfl (by simp only [FS.closed]; exact closed_fills _ _) ?_
  unfold b_strange_fills
  walk_at "stps"
  refine w_lcsel Fill.d (fun _ => true) (fun f => (stF (memB L) f).d) fs none (w_seqT ?_) rfl (fun f hf => ?_) ?_
  · walk_at "stps"
    exact ⟨rfl, rfl⟩
  · refine ⟨_, rfl, ?_, fun _ => ?_⟩
    · walk_at "stps"
      exact ⟨rfl, rfl⟩
    · walk_at "stps"
      refine w1 (in_oD _ _) ?_
      walk_at "stps"
      unfold stF
      cases hn : f.n with
      | none =>
        refine br_of false rfl ?_
        walk_at "stps"
        exact ⟨rfl, rfl⟩
      | some n =>
        dsimp only
        cases hm : memB L n with
        | false =>
          walk_at "stps"
          refine ⟨?_, rfl⟩
          simp only [Option.filter, hm, if_false, Bool.false_eq_true]
          rfl
        | true =>
          walk_at "stps"
          refine ⟨?_, rfl⟩
          simp only [Option.filter, hm, if_true]
          rfl
  · rw [List.filter_eq_self.mpr (fun _ _ => rfl)]
    walk_at "stps"
    refine w1 (tupleO_sq rfl) ?_
    rw [List.map_map]
    exact ⟨rfl, rfl⟩
theorem run_seen_row (c : Clo S) (r : Row) (t : Nat) (L : List Nat) : F_seen_row [r.d, .int t, .lst (natsD L)] S = some ((seenR (memB L) t r).d, S) := by
  refine run_same c rfl (closed_row _ _) ?_
  unfold b_seen_row
  cases r with
  | order m s p z fs =>
    simp only [Row.d]
    walk_at "stps"
    refine w2 (run_strange_fills c fs L) ?_
    walk_at "stps"
    refine w1 (in_natsL _ _ _) ?_
    walk_at "stps"
    simp only [seenR]
    cases hm : memB L t with
    | true =>
      refine br_of true rfl ?_
      walk_at "stps"
      refine w1 (slice_to _ _ 5) ?_
      refine ⟨_, rfl, ?_⟩
      walk_at "stps"
      refine ⟨by rw [sL]; exact (by decide : 6 ≤ 16777216), ?_⟩
      exact ⟨rfl, rfl⟩
    | false =>
      refine br_of false rfl ?_
      walk_at "stps"
      exact ⟨rfl, rfl⟩
  | cancel n =>
    simp only [Row.d]
    walk_at "stps"
    refine w1 (in_natsL _ _ _) ?_
    walk_at "stps"
    simp only [seenR]
    cases hm : memB L n with
    | true =>
      refine br_of true rfl ?_
      walk_at "stps"
      exact ⟨rfl, rfl⟩
    | false =>
      refine br_of false rfl ?_
      walk_at "stps"
      exact ⟨rfl, rfl⟩
  | prints fs =>
    simp only [Row.d]
    walk_at "stps"
    refine w2 (run_strange_fills c fs L) ?_
    walk_at "stps"
    exact ⟨rfl, rfl⟩
  | closed =>
    simp only [Row.d]
    walk_at "stps"
    exact ⟨rfl, rfl⟩
  | call p ps =>
    simp only [Row.d]
    walk_at "stps"
    refine w1 (slice_to _ _ 2) ?_
    refine ⟨_, rfl, ?_⟩
    walk_at "stps"
    refine w_lcsel pD (fun q => memB L q.1) pD ps none (w_seqT ?_) rfl (fun q hq => ?_) ?_
    · walk_at "stps"
      exact ⟨rfl, rfl⟩
    · refine ⟨_, rfl, ?_, fun _ => ?_⟩
      · unfold pD
        walk_at "stps"
        refine w1 (in_natsL _ _ _) ?_
        walk_at "stps"
        exact ⟨rfl, rfl⟩
      · walk_at "stps"
        exact ⟨rfl, rfl⟩
    · walk_at "stps"
      refine w1 (tupleO_sq rfl) ?_
      walk_at "stps"
      refine ⟨by rw [sL]; exact (by decide : 3 ≤ 16777216), ?_⟩
      exact ⟨rfl, rfl⟩
theorem zip_seen (rows : List Row) (own : Int → Bool) : (rows.zipIdx.map fun q => (seenR own q.2 q.1).d) = (seenL own rows).map Row.d := by
  unfold seenL
  rw [List.map_map]
  rfl
theorem run_seen (c : Clo S) {g : Rec} {ms : List Str} (hl : g.rows.length ≤ 40) (hm : ∀ x ∈ ms, x ∈ memsL g.rows) : F_seen [g.d, .tup (ms.map .str)] S = some (Rec.d ⟨g.rule, viewL g.rows ms⟩, S) := by
  refine run_same c rfl (by simp only [Rec.d, FS.closed, closedL, closed_rows, Bool.and_self]) ?_
  unfold b_seen
  walk_at "stps"
  refine w2 (run_members_of c hl) ?_
  walk_at "stps"
  refine w_fors (S1 := S) D.str ms none (fun pre ρ S1 => ∃ x3, ρ = [some g.d, some (.tup (ms.map .str)), some (.tup ((memsL g.rows).map .str)), x3, none, none, none, none, none, none] ∧ S1 = S) (w_seqT ?_) ⟨_, rfl, rfl⟩ ?_ ?_
  · walk_at "stps"
    exact ⟨rfl, rfl⟩
  · rintro pre x post e ρ S1 ⟨x3, rfl, rfl⟩
    refine ⟨_, rfl, ?_⟩
    walk_at "stps"
    refine w1 (in_strs _ _ _) ?_
    walk_at "stps"
    rw [List.contains_iff_mem.mpr (hm x (by rw [e]; simp))]
    refine br_of false rfl ?_
    walk_at "stps"
    exact ⟨.inl rfl, rfl, _, rfl, rfl⟩
  · rintro ρ' S' ⟨x3, rfl, rfl⟩
    walk_at "stps"
    refine w_lcsel (fun (k : Nat) => .int k) (fun k => ms.contains (nameOf (rowAt g.rows k))) (fun (k : Nat) => .int k) (ordersL g.rows) none (w_seqT ?_) rfl (fun k hk => ?_) ?_
    · walk_at "stps"
      exact w2 (run_orders_of c g) ⟨rfl, rfl⟩
    · have ho := ord_mem.mp hk
      refine ⟨_, rfl, ?_, fun _ => ?_⟩
      · walk_at "stps"
        refine w1 (at_row (rowAt_ord ho)) ?_
        walk_at "stps"
        refine w1 (name_at ho) ?_
        walk_at "stps"
        refine w1 (in_strs _ _ _) ?_
        walk_at "stps"
        exact ⟨rfl, rfl⟩
      · walk_at "stps"
        exact ⟨rfl, rfl⟩
    · walk_at "stps"
      refine w_lcsel (fun q : Row × Nat => .tup [.int (q.2 : Nat), q.1.d]) (fun _ => true) (fun q => (seenR (memB (ownL g.rows ms)) q.2 q.1).d) g.rows.zipIdx none (src_enum ?_) rfl (fun q hq => ?_) ?_
      · walk_at "stps"
        exact ⟨.inl rfl, rfl⟩
      · refine ⟨_, rfl, ?_, fun _ => ?_⟩
        · walk_at "stps"
          exact ⟨rfl, rfl⟩
        · walk_at "stps"
          exact w2 (run_seen_row c _ _ _) ⟨rfl, rfl⟩
      · rw [List.filter_eq_self.mpr (fun _ _ => rfl), zip_seen]
        walk_at "stps"
        refine w1 (tupleO_sq rfl) ?_
        walk_at "stps"
        exact ⟨rfl, rfl⟩
theorem run_with_rule (c : Clo S) {g : Rec} {r : Str} (h : Rule r) : F_with_rule [g.d, .str r] S = some (Rec.d ⟨r, g.rows⟩, S) := by
  refine run_same c rfl (by simp only [Rec.d, FS.closed, closedL, closed_rows, Bool.and_self]) ?_
  unfold b_with_rule
  walk_at "stps"
  refine w2 (run_is_rule c h) ?_
  walk_at "stps"
  exact ⟨rfl, rfl⟩
theorem run_cut (c : Clo S) {g : Rec} {t : Nat} (h : t ≤ g.rows.length) : F_cut [g.d, .int t] S = some (Rec.d ⟨g.rule, g.rows.take t⟩, S) := by
  refine run_same c rfl (by simp only [Rec.d, FS.closed, closedL, closed_rows, Bool.and_self]) ?_
  unfold b_cut
  walk_at "stps"
  refine w2 (run_is_number c _) ?_
  walk_at "stps"
  refine w1 (slice_to _ _ _) ?_
  walk_at "stps"
  rw [← List.map_take]
  exact ⟨rfl, rfl⟩
end
end Gn
set_option Elab.async false
set_option linter.all false
set_option maxRecDepth 100000
set_option maxHeartbeats 4000000
namespace Gn
open PySem PySem.Spec PyProof.Rows L2 FS in
theorem w_require {S : Sto} {ρ : Rho} {f : G} {r : Gs} {Q3 : Flw → Rho → Sto → Prop} (c : Clo S) (h : W2 (f ρ S) fun d S1 => d = .bl true ∧ S1 = S) (hr : W2 (r ρ S) fun xs S1 => (∃ x y, xs = [x, y]) ∧ S1 = S) (k : Q3 .nx ρ S) : W3 (cDrop (cCall F_require [] (cCons f r)) ρ S) Q3 := by
  obtain ⟨d, S1, e1, rfl, rfl⟩ := h
  obtain ⟨xs, S2, e2, ⟨x, y, rfl⟩, rfl⟩ := hr
  have e3 : F_require [.bl true, x, y] S2 = some (.non, S2) := by
    refine run_none c rfl ?_
    unfold b_require
    walk_at "stps"
    exact ⟨.inl rfl, rfl⟩
  refine ⟨.nx, ρ, S2, ?_, k⟩
  unfold cDrop cCall cCons
  rw [e1]
  dsimp only
  rw [e2]
  dsimp only
  rw [List.append_nil, e3]
local macro_rules | `(tactic| walk_at "stqs") => `(tactic| repeat ((fail_if_success (with_reducible refine Gn.w_require ?_ ?_ ?_ ?_)); walk_at "stp"))
open PySem PySem.Spec PyProof.Rows L2 FS
section
variable {S : Sto}
theorem run_require (c : Clo S) (x y : D) : F_require [.bl true, x, y] S = some (.non, S) := by
  refine run_none c rfl ?_
  unfold b_require
  walk_at "stps"
  exact ⟨.inl rfl, rfl⟩
theorem run_is_within (c : Clo S) (s : Str) (lim p : Int) : F_is_within [.str s, .int lim, .int p] S = some (.bl (withinL s lim p), S) := by
  refine run_same c rfl rfl ?_
  unfold b_is_within
  walk_at "stps"
  unfold withinL
  cases (s == ("buy" : Str))
  · refine br_of false rfl ?_
    walk_at "stps"
    exact ⟨rfl, rfl⟩
  · refine br_of true rfl ?_
    walk_at "stps"
    exact ⟨rfl, rfl⟩
variable {rows : List Row} {t i : Nat}
theorem Good.row (h : Good rows) (ht : t < rows.length) : RowOk rows t (rowAt rows t) := h.at_ t _ (rowAt_get ht)
theorem closed_tag (r : Row) : (tag r == ("closed" : Str)) = isClosed r := by
  cases r <;> (simp only [tag, isClosed]; decide +kernel)
theorem run_check_closed (c : Clo S) (h : Good rows) (ht : t < rows.length) : F_check_closed [rowsD rows, .int t] S = some (.non, S) := by
  have hr := h.row ht
  refine run_none c rfl ?_
  unfold b_check_closed
  walk_at "stps"
  refine w1 (at_row ht) ?_
  walk_at "stps"
  refine w1 (tag_at _ _) ?_
  refine w_mid (fun ρ1 S1 => ρ1 = [some (rowsD rows), some (.int t), some (.str (tag (rowAt rows t)))] ∧ S1 = S) ?_ ?_
  · walk_at "stps"
    rw [closed_tag]
    refine ⟨fun hc => ?_, fun hc => ?_⟩
    · have : t = 0 := by
        generalize rowAt rows t = r at hr hc
        cases hr <;> first | assumption | cases hc
      refine w_require c ?_ ?_ ⟨rfl, rfl, rfl⟩
      · walk_at "stps"
        exact ⟨by rw [decide_eq_true (show (t : Int) = 0 by omega)], rfl⟩
      · walk_at "stps"
        exact ⟨⟨_, _, rfl⟩, rfl⟩
    · walk_at "stps"
      exact ⟨rfl, rfl, rfl⟩
  rintro ρ1 S1 ⟨rfl, e⟩
  subst S1
  refine w_mid (fun ρ1 S1 => ρ1 = [some (rowsD rows), some (.int t), some (.str (tag (rowAt rows t)))] ∧ S1 = S) ?_ ?_
  · walk_at "stps"
    rw [tag_call]
    refine ⟨fun hc => ?_, fun hc => ?_⟩
    · have : shtL rows t = true := by
        generalize rowAt rows t = r at hr hc
        cases hr <;> first | assumption | cases hc
      refine w_require c ?_ ?_ ⟨rfl, rfl, rfl⟩
      · walk_at "stps"
        refine w2 (run_is_shut c (by omega)) ?_
        exact ⟨by rw [this], rfl⟩
      · walk_at "stps"
        exact ⟨⟨_, _, rfl⟩, rfl⟩
    · walk_at "stps"
      exact ⟨rfl, rfl, rfl⟩
  rintro ρ1 S1 ⟨rfl, e⟩
  subst S1
  walk_at "stps"
  refine w2 (run_is_shut c (by omega)) ?_
  walk_at "stps"
  refine ⟨fun hs => ?_, fun hs => ?_⟩
  · have : fillsOf (rowAt rows t) = [] := by
      generalize rowAt rows t = r at hr
      cases hr with
      | order hm hs1 hp hz hc hf ho => exact hc hs
      | prints hc hf => exact hc hs
      | _ => rfl
    refine w_require c ?_ ?_ ⟨.inl rfl, rfl⟩
    · walk_at "stps"
      refine w1 (at_row ht) ?_
      walk_at "stps"
      refine w2 (run_fills_in c _) ?_
      walk_at "stps"
      rw [this]
      exact ⟨rfl, rfl⟩
    · walk_at "stps"
      exact ⟨⟨_, _, rfl⟩, rfl⟩
  · walk_at "stps"
    exact ⟨.inl rfl, rfl⟩
theorem fill_at (S : Sto) {fs : List Fill} {f : Fill} (h : fs[i]? = some f) : ixO S (.tup (fs.map Fill.d)) (.int (i : Int)) = some (.tup [.int f.p, .int f.z, oD f.n]) := by
  rw [ixO_sq (xs := fs.map Fill.d) rfl, List.getElem?_map, h]
  rfl
theorem isO_or (o : Option Int) (S : Sto) : isO false S (oD o) .non = some (.bl (decide (o = none))) := by
  cases o <;> rfl
theorem run_check_resting (c : Clo S) (h : Good rows) (ht : t < rows.length) {f : Fill} (hf : (fillsOf (rowAt rows t))[i]? = some f) (hk : FillOk rows t i f) : F_check_resting [rowsD rows, .int t, .int i] S = some (.non, S) := by
  refine run_none c rfl ?_
  unfold b_check_resting
  walk_at "stps"
  refine w1 (at_row ht) ?_
  walk_at "stps"
  refine w2 (run_fills_in c _) ?_
  walk_at "stps"
  refine w1 (fill_at _ hf) ?_
  walk_at "stqs"
  refine w_require c ?_ ?_ ⟨.inl rfl, rfl⟩
  · walk_at "stps"
    refine w1 (isO_or _ _) ?_
    walk_at "stps"
    cases hn : f.n with
    | none =>
      refine br_of true rfl ?_
      walk_at "stps"
      exact ⟨rfl, rfl⟩
    | some n =>
      obtain ⟨k, rfl, h1, _⟩ := hk.own n hn
      refine br_of false rfl ?_
      walk_at "stps"
      refine w2 (run_is_open c i (by omega) (by have := h.few; omega) h.ok) ?_
      rw [h1]
      exact ⟨rfl, rfl⟩
  · walk_at "stps"
    exact ⟨⟨_, _, rfl⟩, rfl⟩
theorem zs_ints (fs : List Fill) : (fs.map fun f => D.int f.z) = (fs.map (·.z)).map .int := by rw [List.map_map]; rfl
theorem run_check_own (c : Clo S) (h : Good rows) (ht : t < rows.length) {m s : Str} {p z : Int} {fs : List Fill} (e : rowAt rows t = .order m s p z fs) {f : Fill} (hf : fs[i]? = some f) (hk : FillOk rows t i f) (ho : OwnOk rows s p z fs i f) : F_check_own [rowsD rows, .int t, .int i] S = some (.non, S) := by
  refine run_none c rfl ?_
  have hl := h.few
  unfold b_check_own
  walk_at "stps"
  refine w1 (at_row ht) ?_
  rw [e]
  simp only [Row.d]
  walk_at "stps"
  refine w1 (fill_at _ hf) ?_
  walk_at "stqs"
  refine w2 (run_check_resting c h ht (by rw [e]; exact hf) hk) ?_
  walk_at "stqs"
  refine w_require c ?_ ?_ ?_
  · walk_at "stps"
    refine w1 (isO_or _ _) ?_
    walk_at "stps"
    cases hn : f.n with
    | none =>
      refine br_of true rfl ?_
      walk_at "stps"
      exact ⟨rfl, rfl⟩
    | some n =>
      obtain ⟨k, rfl, h1, _⟩ := hk.own n hn
      have ho1 := (opn_iff.mp h1).2.1
      refine br_of false rfl ?_
      walk_at "stps"
      refine w1 (at_row (rowAt_ord ho1)) ?_
      walk_at "stps"
      refine w1 (side_at _ ho1) ?_
      walk_at "stps"
      rw [ho.side k hn]
      exact ⟨rfl, rfl⟩
  · walk_at "stps"
    exact ⟨⟨_, _, rfl⟩, rfl⟩
  walk_at "stqs"
  refine w_require c ?_ ?_ ?_
  · have hw : F_is_within [.str s, .int p, .int f.p] S = some (.bl true, S) := by rw [run_is_within c, ho.within]
    walk_at "stps"
    refine w1 (isO_or _ _) ?_
    walk_at "stps"
    cases hn : f.n with
    | none =>
      refine br_of true rfl ?_
      walk_at "stps"
      exact w2 hw ⟨rfl, rfl⟩
    | some n =>
      obtain ⟨k, rfl, h1, h2, _⟩ := hk.own n hn
      have ho1 := (opn_iff.mp h1).2.1
      refine br_of false rfl ?_
      walk_at "stps"
      refine w1 (at_row (rowAt_ord ho1)) ?_
      walk_at "stps"
      refine w1 (price_at _ ho1) ?_
      walk_at "stps"
      exact w2 hw ⟨rfl, rfl⟩
  · walk_at "stps"
    exact ⟨⟨_, _, rfl⟩, rfl⟩
  walk_at "stqs"
  refine w_lcsel Fill.d (fun _ => true) (fun f => .int f.z) (fs.take i) none (w_seqT ?_) rfl (fun f hf => ?_) ?_
  · walk_at "stps"
    refine w1 (slice_to _ _ _) ?_
    rw [List.map_take]
    exact ⟨rfl, rfl⟩
  · refine ⟨_, rfl, ?_, fun _ => ?_⟩
    · walk_at "stps"
      exact ⟨rfl, rfl⟩
    · walk_at "stps"
      exact ⟨rfl, rfl⟩
  rw [List.filter_eq_self.mpr (fun _ _ => rfl), zs_ints]
  walk_at "stqs"
  refine w1 (sum_ints _) ?_
  walk_at "stqs"
  have hfit : f.z ≤ z - ((fs.take i).map (·.z)).sum := ho.fit
  refine w_require c ?_ ?_ ⟨.inl rfl, rfl⟩
  · walk_at "stps"
    refine w1 (isO_or _ _) ?_
    walk_at "stps"
    cases hn : f.n with
    | none =>
      refine br_of true rfl ?_
      walk_at "stps"
      exact ⟨rfl, rfl⟩
    | some n =>
      obtain ⟨k, rfl, h1, h2, h3⟩ := hk.own n hn
      have ho1 := (opn_iff.mp h1).2.1
      refine br_of false rfl ?_
      walk_at "stps"
      refine w2 (run_rest_of c i ho1 (by omega) (by omega)) ?_
      walk_at "stps"
      rw [decide_eq_true h3]
      exact ⟨rfl, rfl⟩
  · walk_at "stps"
    exact ⟨⟨_, _, rfl⟩, rfl⟩
theorem run_check_print (c : Clo S) (h : Good rows) (ht : t < rows.length) {fs : List Fill} (e : rowAt rows t = .prints fs) {f : Fill} (hf : fs[i]? = some f) (hk : FillOk rows t i f) : F_check_print [rowsD rows, .int t, .int i] S = some (.non, S) := by
  refine run_none c rfl ?_
  have hl := h.few
  unfold b_check_print
  walk_at "stps"
  refine w1 (at_row ht) ?_
  rw [e]
  simp only [Row.d]
  walk_at "stps"
  refine w1 (fill_at _ hf) ?_
  walk_at "stqs"
  refine w2 (run_check_resting c h ht (by rw [e]; exact hf) hk) ?_
  walk_at "stqs"
  refine w_require c ?_ ?_ ?_
  · walk_at "stps"
    refine w1 (isO_or _ _) ?_
    walk_at "stps"
    cases hn : f.n with
    | none =>
      refine br_of true rfl ?_
      walk_at "stps"
      exact ⟨rfl, rfl⟩
    | some n =>
      obtain ⟨k, rfl, h1, h2, _⟩ := hk.own n hn
      have ho1 := (opn_iff.mp h1).2.1
      refine br_of false rfl ?_
      walk_at "stps"
      refine w1 (at_row (rowAt_ord ho1)) ?_
      walk_at "stps"
      refine w1 (price_at _ ho1) ?_
      walk_at "stps"
      rw [decide_eq_true h2]
      exact ⟨rfl, rfl⟩
  · walk_at "stps"
    exact ⟨⟨_, _, rfl⟩, rfl⟩
  walk_at "stqs"
  refine w_require c ?_ ?_ ⟨.inl rfl, rfl⟩
  · walk_at "stps"
    refine w1 (isO_or _ _) ?_
    walk_at "stps"
    cases hn : f.n with
    | none =>
      refine br_of true rfl ?_
      walk_at "stps"
      exact ⟨rfl, rfl⟩
    | some n =>
      obtain ⟨k, rfl, h1, h2, h3⟩ := hk.own n hn
      have ho1 := (opn_iff.mp h1).2.1
      refine br_of false rfl ?_
      walk_at "stps"
      refine w2 (run_rest_of c i ho1 (by omega) (by omega)) ?_
      walk_at "stps"
      rw [decide_eq_true h3]
      exact ⟨rfl, rfl⟩
  · walk_at "stps"
    exact ⟨⟨_, _, rfl⟩, rfl⟩
theorem run_check_call (c : Clo S) (h : Good rows) (ht : t < rows.length) {p : Option Int} {ps : List (Int × Int)} (e : rowAt rows t = .call p ps) (hp : (∃ i, p = some i ∧ 1 ≤ i) ∨ (p = none ∧ ps = [])) (hq : ∀ q ∈ ps, PairOk rows t p q) : F_check_call [rowsD rows, .int t] S = some (.non, S) := by
  refine run_none c rfl ?_
  have hl := h.few
  unfold b_check_call
  refine w_fors (S1 := S) (fun q : (Int × Int) × Nat => .tup [.int (q.2 : Nat), pD q.1]) ps.zipIdx none (fun pre ρ S1 => ∃ x2 x3 x4, ρ = [some (rowsD rows), some (.int t), x2, x3, x4] ∧ S1 = S) (src_enum ?_) ⟨_, _, _, rfl, rfl⟩ ?_ ?_
  · walk_at "stps"
    refine w1 (at_row ht) ?_
    rw [e]
    simp only [Row.d]
    walk_at "stps"
    exact ⟨.inl rfl, rfl⟩
  · rintro pre q post e2 ρ S1 ⟨x2, x3, x4, rfl, eS⟩
    subst S1
    have hq1 : q.1 ∈ ps := by
      have : q ∈ ps.zipIdx := by rw [e2]; simp
      obtain ⟨s, hs, e3⟩ := List.getElem_of_mem this
      rw [List.getElem_zipIdx] at e3
      rw [← e3]
      exact List.getElem_mem _
    obtain ⟨⟨k, ek, h1, h2, h3⟩, h4⟩ := hq _ hq1
    have ho1 := (opn_iff.mp h1).2.1
    obtain ⟨⟨q1, q2⟩, j⟩ := q
    dsimp only at ek h2 h3 h4 hq1
    subst ek
    refine ⟨_, rfl, ?_⟩
    walk_at "stqs"
    refine w_require c ?_ ?_ ?_
    · walk_at "stps"
      refine w2 (run_is_open c 0 (by omega) (by omega) h.ok) ?_
      rw [h1]
      exact ⟨rfl, rfl⟩
    · walk_at "stps"
      exact ⟨⟨_, _, rfl⟩, rfl⟩
    walk_at "stqs"
    refine w_require c ?_ ?_ ?_
    · walk_at "stps"
      refine w1 (at_row (rowAt_ord ho1)) ?_
      walk_at "stps"
      refine w1 (side_at _ ho1) ?_
      walk_at "stps"
      refine w1 (at_row (rowAt_ord ho1)) ?_
      walk_at "stps"
      refine w1 (price_at _ ho1) ?_
      walk_at "stps"
      refine w1 (at_row ht) ?_
      rw [e]
      simp only [Row.d]
      walk_at "stps"
      rcases hp with ⟨i, rfl, hi⟩ | ⟨rfl, rfl⟩
      · refine w2 (run_is_within c _ _ _) ?_
        rw [h3 i rfl]
        exact ⟨rfl, rfl⟩
      · cases hq1
    · walk_at "stps"
      exact ⟨⟨_, _, rfl⟩, rfl⟩
    walk_at "stqs"
    refine w_require c ?_ ?_ ⟨.inl rfl, rfl, _, _, _, rfl, rfl⟩
    · walk_at "stps"
      refine w2 (run_rest_of c 0 ho1 (by omega) (by omega)) ?_
      walk_at "stps"
      rw [decide_eq_true h2]
      exact ⟨rfl, rfl⟩
    · walk_at "stps"
      exact ⟨⟨_, _, rfl⟩, rfl⟩
  · rintro ρ' S' ⟨x2, x3, x4, rfl, rfl⟩
    exact ⟨.inl rfl, rfl⟩
theorem run_check_row (c : Clo S) (h : Good rows) (ht : t < rows.length) : F_check_row [rowsD rows, .int t] S = some (.non, S) := by
  refine run_none c rfl ?_
  have hl := h.few
  have hr := h.row ht
  have hok := h.ok _ (row_mem ht)
  unfold b_check_row
  walk_at "stqs"
  refine w2 (run_check_closed c h ht) ?_
  walk_at "stqs"
  refine w1 (at_row ht) ?_
  cases e : rowAt rows t with
  | closed =>
    simp only [Row.d]
    walk_at "stps"
    exact ⟨.inl rfl, rfl⟩
  | cancel n =>
    rw [e] at hr
    cases hr with
    | @cancel k h1 =>
      simp only [Row.d]
      walk_at "stqs"
      refine w_require c ?_ ?_ ⟨.inl rfl, rfl⟩
      · walk_at "stps"
        refine w1 (at_row ht) ?_
        rw [e]
        simp only [Row.d]
        walk_at "stps"
        refine w2 (run_is_open c 0 (by omega) (by omega) h.ok) ?_
        rw [h1]
        exact ⟨rfl, rfl⟩
      · walk_at "stps"
        exact ⟨⟨_, _, rfl⟩, rfl⟩
  | call p ps =>
    rw [e] at hr
    cases hr with
    | call hs hp hps hq =>
      simp only [Row.d]
      walk_at "stqs"
      exact w2 (run_check_call c h ht e hp hq) ⟨.inl rfl, rfl⟩
  | order m s p z fs =>
    rw [e] at hr hok
    cases hr with
    | order hm hs hp hz hc hf ho =>
      have h8 : fs.length ≤ 8 := by cases hok; assumption
      simp only [Row.d]
      walk_at "stqs"
      refine w_forr (S1 := S) fs.length (fun k ρ S1 => ∃ x2, ρ = [some (rowsD rows), some (.int t), x2] ∧ S1 = S) (w_src ?_ (by omega)) ⟨_, rfl, rfl⟩ ?_ ?_
      · walk_at "stps"
        refine w1 (at_row ht) ?_
        rw [e]
        simp only [Row.d]
        walk_at "stps"
        rw [List.length_map]
        exact ⟨rfl, rfl⟩
      · rintro i hi ρ S1 ⟨x2, rfl, eS⟩
        subst S1
        refine ⟨_, rfl, ?_⟩
        have hfi : fs[i]? = some fs[i] := List.getElem?_eq_getElem hi
        walk_at "stps"
        refine w2 (run_check_own c h ht e hfi (hf i _ hfi) (ho i _ hfi)) ?_
        exact ⟨.inl rfl, _, rfl, rfl⟩
      · rintro ρ' S' ⟨x2, rfl, rfl⟩
        exact ⟨.inl rfl, rfl⟩
  | prints fs =>
    rw [e] at hr hok
    cases hr with
    | prints hc hf =>
      have h8 : fs.length ≤ 8 := by cases hok; assumption
      simp only [Row.d]
      walk_at "stqs"
      refine w_forr (S1 := S) fs.length (fun k ρ S1 => ∃ x2, ρ = [some (rowsD rows), some (.int t), x2] ∧ S1 = S) (w_src ?_ (by omega)) ⟨_, rfl, rfl⟩ ?_ ?_
      · walk_at "stps"
        refine w1 (at_row ht) ?_
        rw [e]
        simp only [Row.d]
        walk_at "stps"
        rw [List.length_map]
        exact ⟨rfl, rfl⟩
      · rintro i hi ρ S1 ⟨x2, rfl, eS⟩
        subst S1
        refine ⟨_, rfl, ?_⟩
        have hfi : fs[i]? = some fs[i] := List.getElem?_eq_getElem hi
        walk_at "stps"
        refine w2 (run_check_print c h ht e hfi (hf i _ hfi)) ?_
        exact ⟨.inl rfl, _, rfl, rfl⟩
      · rintro ρ' S' ⟨x2, rfl, rfl⟩
        exact ⟨.inl rfl, rfl⟩
theorem run_lets_record (c : Clo S) {g : Rec} (hr : Rule g.rule) (h : Good g.rows) : F_lets_record [g.d] S = some (.int g.rows.length, S) := by
  refine run_same c rfl rfl ?_
  have hl := h.few
  unfold b_lets_record
  walk_at "stqs"
  refine w_require c ?_ ?_ ?_
  · walk_at "stps"
    refine w2 (run_has_shape c hr fun r hr => ?_) ⟨rfl, rfl⟩
    obtain ⟨t, ht, e⟩ := List.getElem_of_mem hr
    exact (h.at_ t r (by rw [List.getElem?_eq_getElem ht, e])).sh
  · walk_at "stps"
    exact ⟨⟨_, _, rfl⟩, rfl⟩
  walk_at "stqs"
  refine w_forr (S1 := S) g.rows.length (fun k ρ S1 => ∃ x3, ρ = [some g.d, some (.str g.rule), some (rowsD g.rows), x3] ∧ S1 = S) (w_src ?_ (by omega)) ⟨_, rfl, rfl⟩ ?_ ?_
  · walk_at "stps"
    rw [List.length_map]
    exact ⟨rfl, rfl⟩
  · rintro t ht ρ S1 ⟨x3, rfl, eS⟩
    subst S1
    refine ⟨_, rfl, ?_⟩
    walk_at "stps"
    refine w2 (run_check_row c h ht) ?_
    exact ⟨.inl rfl, _, rfl, rfl⟩
  · rintro ρ' S' ⟨x3, rfl, rfl⟩
    walk_at "stps"
    rw [List.length_map]
    exact ⟨rfl, rfl⟩
end
end Gn
set_option Elab.async false
set_option linter.all false
set_option maxRecDepth 100000
set_option maxHeartbeats 4000000
namespace Gn
open PySem PySem.Spec PyProof.Rows L2 FS
/-! ### rows that are good: by looking -/
def small (i : Int) : Bool := decide (-1000000 ≤ i) && decide (i ≤ 1000000)
def fineW (m : Str) : Bool := (m.cps.toList.all fun c => decide (c < 128)) && decide (m.length ≤ 20)
def fineF (f : Fill) : Bool := small f.p && small f.z && (match f.n with | none => true | some n => small n)
def fineR : Row → Bool
  | .order m s p z fs => fineW m && fineW s && small p && small z && fs.all fineF && decide (fs.length ≤ 8)
  | .cancel n => small n
  | .prints fs => fs.all fineF && decide (fs.length ≤ 8)
  | .closed => true
  | .call p ps => (match p with | none => true | some i => small i) && ps.all (fun q => small q.1 && small q.2) && decide (ps.length ≤ 40)
theorem small_ok {i : Int} (h : small i = true) : Sm i := by
  unfold small at h
  simp only [Bool.and_eq_true, decide_eq_true_eq] at h
  exact sm_bd h.1 h.2
theorem fineW_ok {m : Str} (h : fineW m = true) : Wd m := by
  unfold fineW at h
  rw [Bool.and_eq_true, decide_eq_true_eq] at h
  exact ⟨asc_lit h.1, h.2⟩
theorem fineF_ok {f : Fill} (h : fineF f = true) : FOk f := by
  unfold fineF at h
  simp only [Bool.and_eq_true] at h
  refine ⟨small_ok h.1.1, small_ok h.1.2, fun i hi => ?_⟩
  have h2 := h.2
  rw [hi] at h2
  exact small_ok h2
theorem fineR_ok {r : Row} (h : fineR r = true) : ROk r := by
  cases r with
  | order m s p z fs =>
    simp only [fineR, Bool.and_eq_true, decide_eq_true_eq, List.all_eq_true] at h
    obtain ⟨⟨⟨⟨⟨h1, h2⟩, h3⟩, h4⟩, h5⟩, h6⟩ := h
    exact .order (fineW_ok h1) (fineW_ok h2) (small_ok h3) (small_ok h4) (fun f hf => fineF_ok (h5 f hf)) h6
  | cancel n => exact .cancel (small_ok h)
  | prints fs =>
    simp only [fineR, Bool.and_eq_true, decide_eq_true_eq, List.all_eq_true] at h
    exact .prints (fun f hf => fineF_ok (h.1 f hf)) h.2
  | closed => exact .closed
  | call p ps =>
    simp only [fineR, Bool.and_eq_true, decide_eq_true_eq, List.all_eq_true] at h
    refine .call (fun i hi => ?_) (fun q hq => ⟨small_ok (h.1.2 q hq).1, small_ok (h.1.2 q hq).2⟩) h.2
    have h1 := h.1.1
    rw [hi] at h1
    exact small_ok h1
def fillB (rows : List Row) (t i : Nat) (f : Fill) : Bool := decide (1 ≤ f.p) && decide (1 ≤ f.z) && (match f.n with
  | none => true
  | some n => decide (0 ≤ n) && opnL rows n.toNat t i && decide (priceOf (rowAt rows n.toNat) = f.p) && decide (f.z ≤ rstL rows n.toNat t i))
def ownsB (rows : List Row) (s : Str) (p z : Int) (fs : List Fill) (i : Nat) (f : Fill) : Bool := (match f.n with
  | none => true
  | some n => !(sideOf (rowAt rows n.toNat) == s)) && withinL s p f.p && decide (f.z ≤ z - zsum (fs.take i))
def nmB (m : Str) : Bool := m == "ann" || m == "bob" || m == "cy" || m == "dee" || m == "eve"
def sideB (s : Str) : Bool := s == "buy" || s == "sell"
def pairsB : List (Int × Int) → Bool
  | x :: y :: l => decide (x.1 < y.1) && pairsB (y :: l)
  | _ => true
def pairB (rows : List Row) (t : Nat) (p : Option Int) (q : Int × Int) : Bool := decide (0 ≤ q.1) && opnL rows q.1.toNat t 0 && decide (q.2 ≤ rstL rows q.1.toNat t 0) && decide (1 ≤ q.2) && (match p with
  | none => true
  | some i => withinL (sideOf (rowAt rows q.1.toNat)) (priceOf (rowAt rows q.1.toNat)) i)
def rowB (rows : List Row) (t : Nat) : Row → Bool
  | .order m s p z fs => nmB m && sideB s && decide (1 ≤ p) && decide (1 ≤ z) && (!shtL rows t || fs.isEmpty) && fs.zipIdx.all (fun q => fillB rows t q.2 q.1) && fs.zipIdx.all (fun q => ownsB rows s p z fs q.2 q.1)
  | .cancel n => decide (0 ≤ n) && opnL rows n.toNat t 0
  | .prints fs => (!shtL rows t || fs.isEmpty) && fs.zipIdx.all (fun q => fillB rows t q.2 q.1)
  | .closed => decide (t = 0)
  | .call p ps => shtL rows t && (match p with | some i => decide (1 ≤ i) | none => ps.isEmpty) && pairsB ps && ps.all (pairB rows t p)
def goodB (rows : List Row) : Bool := rows.zipIdx.all (fun q => rowB rows q.2 q.1) && rows.all fineR && decide (rows.length ≤ 31)
section
variable {rows : List Row} {t : Nat}
theorem zip_all {α : Type} {l : List α} {P : Nat → α → Bool} (h : (l.zipIdx.all fun q => P q.2 q.1) = true) : ∀ i x, l[i]? = some x → P i x = true := by
  intro i x e
  refine List.all_eq_true.mp h (x, i) ?_
  refine List.mem_of_getElem? (i := i) ?_
  rw [List.getElem?_zipIdx, e]
  simp
theorem fillB_ok {i : Nat} {f : Fill} (h : fillB rows t i f = true) : FillOk rows t i f := by
  unfold fillB at h
  simp only [Bool.and_eq_true, decide_eq_true_eq] at h
  refine ⟨h.1.1, h.1.2, fun n hn => ?_⟩
  have h2 := h.2
  rw [hn] at h2
  simp only [Bool.and_eq_true, decide_eq_true_eq] at h2
  exact ⟨n.toNat, by omega, h2.1.1.2, h2.1.2, h2.2⟩
theorem ownsB_ok {s : Str} {p z : Int} {fs : List Fill} {i : Nat} {f : Fill} (h : ownsB rows s p z fs i f = true) : OwnOk rows s p z fs i f := by
  unfold ownsB at h
  simp only [Bool.and_eq_true, decide_eq_true_eq] at h
  refine ⟨fun k hk => ?_, h.1.2, h.2⟩
  have h2 := h.1.1
  rw [hk] at h2
  simp only [Int.toNat_natCast, Bool.not_eq_true'] at h2
  exact h2
theorem pairsB_ok : ∀ {l : List (Int × Int)}, pairsB l = true → l.Pairwise fun a b => a.1 < b.1
  | [], _ => List.Pairwise.nil
  | [x], _ => List.pairwise_singleton _ _
  | x :: y :: l, h => by
    simp only [pairsB, Bool.and_eq_true, decide_eq_true_eq] at h
    have h2 := pairsB_ok h.2
    refine List.pairwise_cons.mpr ⟨fun z hz => ?_, h2⟩
    rcases List.mem_cons.mp hz with rfl | hz
    · exact h.1
    · have := (List.pairwise_cons.mp h2).1 z hz
      omega
theorem shB {b : Bool} {fs : List Fill} (h : (!b || fs.isEmpty) = true) (e : b = true) : fs = [] := by
  rw [e] at h
  simpa using h
theorem rowB_ok {r : Row} (h : rowB rows t r = true) : RowOk rows t r := by
  cases r with
  | order m s p z fs =>
    simp only [rowB, Bool.and_eq_true, decide_eq_true_eq] at h
    obtain ⟨⟨⟨⟨⟨⟨h1, h2⟩, h3⟩, h4⟩, h5⟩, h6⟩, h7⟩ := h
    refine .order ?_ ?_ h3 h4 (shB h5) (fun i f e => fillB_ok (zip_all (P := fun i f => fillB rows t i f) h6 i f e)) (fun i f e => ownsB_ok (zip_all (P := fun i f => ownsB rows s p z fs i f) h7 i f e))
    · unfold nmB at h1
      simp only [Bool.or_eq_true, beq_iff_eq] at h1
      unfold Nm
      rcases h1 with (((h1 | h1) | h1) | h1) | h1 <;> simp [h1]
    · unfold sideB at h2
      simpa only [Bool.or_eq_true, beq_iff_eq] using h2
  | cancel n =>
    simp only [rowB, Bool.and_eq_true, decide_eq_true_eq] at h
    have : n = (n.toNat : Int) := by omega
    rw [this]
    exact .cancel h.2
  | prints fs =>
    simp only [rowB, Bool.and_eq_true] at h
    exact .prints (shB h.1) (fun i f e => fillB_ok (zip_all (P := fun i f => fillB rows t i f) h.2 i f e))
  | closed =>
    simp only [rowB, decide_eq_true_eq] at h
    exact .closed h
  | call p ps =>
    simp only [rowB, Bool.and_eq_true] at h
    obtain ⟨⟨⟨h1, h2⟩, h3⟩, h4⟩ := h
    refine .call h1 ?_ (pairsB_ok h3) fun q hq => ?_
    · cases p with
      | some i => exact .inl ⟨i, rfl, of_decide_eq_true h2⟩
      | none => exact .inr ⟨rfl, by simpa using h2⟩
    · have h5 := List.all_eq_true.mp h4 q hq
      unfold pairB at h5
      simp only [Bool.and_eq_true, decide_eq_true_eq] at h5
      refine ⟨⟨q.1.toNat, by omega, h5.1.1.1.2, h5.1.1.2, fun i hi => ?_⟩, h5.1.2⟩
      subst hi
      exact h5.2
theorem goodB_ok (h : goodB rows = true) : Good rows := by
  unfold goodB at h
  simp only [Bool.and_eq_true, decide_eq_true_eq] at h
  exact ⟨fun t r e => rowB_ok (zip_all (P := fun t r => rowB rows t r) h.1.1 t r e), fun r hr => fineR_ok (List.all_eq_true.mp h.1.2 r hr), h.2⟩
end
/-! ### beginnings -/
section
variable {a b : List Row} {s k i : Nat}
theorem agree_bef (h : ∀ j, j ≤ s → rowAt a j = rowAt b j) : befL a k s i = befL b k s i := by
  unfold befL
  congr 1
  · congr 1
    refine List.map_congr_left fun j hj => ?_
    rw [h j (Nat.le_of_lt (List.mem_range.mp hj))]
  · rw [h s (Nat.le_refl _)]
theorem agree_rst (h : ∀ j, j ≤ s → rowAt a j = rowAt b j) (hk : k ≤ s) : rstL a k s i = rstL b k s i := by
  unfold rstL
  rw [agree_bef h, h k hk]
theorem agree_opn (h : ∀ j, j ≤ s → rowAt a j = rowAt b j) : opnL a k s i = opnL b k s i := by
  refine bool_iff ?_
  rw [opn_iff, opn_iff]
  refine and_congr_right fun hk => ?_
  rw [agree_rst h (Nat.le_of_lt hk), h k (Nat.le_of_lt hk)]
  refine and_congr_right fun _ => and_congr_left fun _ => not_congr (exists_congr fun j => and_congr_right fun hj => ?_)
  rw [h j (Nat.le_of_lt hj)]
theorem agree_sht (h : ∀ j, j ≤ s → rowAt a j = rowAt b j) : shtL a s = shtL b s := by
  refine bool_iff ?_
  rw [sht_iff, sht_iff, h 0 (Nat.zero_le _)]
  refine and_congr_right fun _ => and_congr_right fun _ => forall_congr' fun j => ?_
  constructor
  · intro h1 hj; rw [← h j (Nat.le_of_lt hj)]; exact h1 hj
  · intro h1 hj; rw [h j (Nat.le_of_lt hj)]; exact h1 hj
theorem agree_fillOk (h : ∀ j, j ≤ s → rowAt a j = rowAt b j) {f : Fill} (hf : FillOk a s i f) : FillOk b s i f := by
  refine ⟨hf.p, hf.z, fun n hn => ?_⟩
  obtain ⟨k, rfl, h1, h2, h3⟩ := hf.own n hn
  have hk := Nat.le_of_lt (opn_iff.mp h1).1
  exact ⟨k, rfl, by rw [← agree_opn h]; exact h1, by rw [← h k hk]; exact h2, by rw [← agree_rst h hk]; exact h3⟩
theorem agree_rowOk (h : ∀ j, j ≤ s → rowAt a j = rowAt b j) {r : Row} (hr : RowOk a s r) : RowOk b s r := by
  have hs := agree_sht h
  cases hr with
  | order hm hs1 hp hz hc hf ho =>
    refine .order hm hs1 hp hz (by rw [← hs]; exact hc) (fun i f e => agree_fillOk h (hf i f e)) fun i f e => ⟨fun k hk => ?_, (ho i f e).within, (ho i f e).fit⟩
    obtain ⟨j, e1, h1, _⟩ := (hf i f e).ref hk
    have : k = j := by omega
    subst this
    rw [← h k (by omega)]
    exact (ho i f e).side k hk
  | cancel h1 => exact .cancel (by rw [← agree_opn h]; exact h1)
  | prints hc hf => exact .prints (by rw [← hs]; exact hc) fun i f e => agree_fillOk h (hf i f e)
  | closed h => exact .closed h
  | call hs1 hp hps hq =>
    refine .call (by rw [← hs]; exact hs1) hp hps fun q hq1 => ?_
    obtain ⟨⟨k, e, h1, h2, h3⟩, h4⟩ := hq q hq1
    have hk := Nat.le_of_lt (opn_iff.mp h1).1
    exact ⟨⟨k, e, by rw [← agree_opn h]; exact h1, by rw [← agree_rst h hk]; exact h2, fun i hi => by rw [← h k hk]; exact h3 i hi⟩, h4⟩
theorem Good.take {rows : List Row} (h : Good rows) (t : Nat) : Good (rows.take t) := by
  refine ⟨fun s r e => ?_, fun r hr => h.ok r (List.mem_of_mem_take hr), by rw [List.length_take]; have := h.few; omega⟩
  rw [List.getElem?_take] at e
  split at e
  · rename_i hs
    exact agree_rowOk (fun j hj => (take_at (by omega)).symm) (h.at_ s r e)
  · cases e
end
abbrev o3 (m s : Str) (p z : Int) : Row := .order m s p z []
def fixedR : List Rec := [
  ⟨"time", [o3 "ann" "buy" 10 3, o3 "bob" "buy" 10 2, .prints [⟨10, 1, none⟩, ⟨10, 1, some 0⟩], .prints [⟨10, 1, none⟩]]⟩,
  ⟨"late", [.closed, o3 "ann" "sell" 9 4, o3 "cy" "buy" 11 2, .prints [], o3 "bob" "sell" 9 1, .call (some 10) [(1, 1), (2, 2)], .cancel 1, .prints [⟨9, 1, some 4⟩, ⟨12, 3, none⟩]]⟩,
  ⟨"price", [o3 "ann" "sell" 9 2, .order "bob" "buy" 9 5 [⟨8, 1, none⟩, ⟨9, 2, some 0⟩], .order "ann" "sell" 9 1 [⟨9, 1, some 1⟩], .cancel 1, .prints [⟨7, 1000, none⟩]]⟩,
  ⟨"time", []⟩, ⟨"late", [.closed]⟩]
theorem run_fixed (S : Sto) : F__law_fixed_records [] S = some (.ref S.length, S ++ [.lst (fixedR.map Rec.d)]) := rfl
structure RecGood (g : Rec) : Prop where
  rule : Rule g.rule
  rows : Good g.rows
def ruleB (s : Str) : Bool := s == "time" || s == "late" || s == "price"
theorem recB_ok {g : Rec} (h : ruleB g.rule = true) (h2 : goodB g.rows = true) : RecGood g := by
  refine ⟨?_, goodB_ok h2⟩
  unfold ruleB at h
  simp only [Bool.or_eq_true, beq_iff_eq, or_assoc] at h
  exact h
theorem fixed_good : ∀ g ∈ fixedR, RecGood g := by
  have h : (fixedR.all fun g => ruleB g.rule && goodB g.rows) = true := by decide +kernel
  intro g hg
  have := List.all_eq_true.mp h g hg
  rw [Bool.and_eq_true] at this
  exact recB_ok this.1 this.2
theorem rec_closed (n : Nat) (g : Rec) : FS.closed n g.d = true := by simp only [Rec.d, FS.closed, closedL, closed_rows, Bool.and_self]
theorem recs_closed (n : Nat) (gs : List Rec) : closedL n (gs.map Rec.d) = true := closedL_of _ _ fun x _ => rec_closed n x
abbrev lots (u : MO) (gs : List Rec) : Sto := [u, .lst (gs.map Rec.d)]
theorem lots_clo {u : MO} {c : Nat} (gs : List Rec) (h : RdM u c) : Clo (lots u gs) := by
  unfold Clo
  simp only [List.all_cons, List.all_nil, h.closed, Bool.true_and, Bool.and_true]
  exact recs_closed _ _
theorem lots_add (gs : List Rec) (g : Rec) : gs.map Rec.d ++ [g.d] = (gs ++ [g]).map Rec.d := by
  rw [List.map_append]
  rfl
theorem rule_wd {s : Str} (h : Rule s) : Wd s := by
  rcases h with rfl | rfl | rfl <;> exact fineW_ok (by decide +kernel)
theorem rec_nice {g : Rec} (h : RecGood g) : Nice g.d 5 7000000 := by
  have h1 := nice_rows h.rows.ok (Nat.le_trans h.rows.few (by decide))
  exact (Nice.tup (((NiceL.nil.mono (Nat.zero_le 4) (Nat.le_refl _)).cons h1).cons ((Nice.str (rule_wd h.rule).1 (rule_wd h.rule).2).mono (Nat.zero_le _) (Nat.le_refl _)))).mono (Nat.le_refl _) (by decide)
theorem rec_eq {S : Sto} (neg : Bool) {g : Rec} (h : RecGood g) : eqO neg S g.d g.d = some (.bl (!neg)) := eq_nice neg (rec_nice h) (by decide)
theorem nats_nice {l : List Nat} (h : ∀ k ∈ l, k < 1000) (hl : l.length ≤ 1000) : Nice (.tup (natsD l)) 1 (1923 * 1000 + 3) := by
  rw [natsD_ints]
  refine (Nice.tup (nice_ints fun i hi => ?_)).mono (Nat.le_refl _) ?_
  · obtain ⟨k, hk, rfl⟩ := List.mem_map.mp hi
    have := h k hk
    exact sm_bd (by omega) (by omega)
  · rw [List.length_map, List.length_map]
    omega
theorem nats_eq {S : Sto} (neg : Bool) {l : List Nat} (h : ∀ k ∈ l, k < 1000) (hl : l.length ≤ 1000) : eqO neg S (.tup (natsD l)) (.tup (natsD l)) = some (.bl (!neg)) := eq_nice neg (nats_nice h hl) (by decide)
theorem ordersL_bd {rows : List Row} (h : rows.length ≤ 900) : (∀ k ∈ ordersL rows, k < 1000) ∧ (ordersL rows).length ≤ 1000 := by
  refine ⟨fun k hk => ?_, ?_⟩
  · have := rowAt_ord (ord_mem.mp hk)
    omega
  · have := List.length_filter_le (fun k => isOrd (rowAt rows k)) (List.range rows.length)
    rw [List.length_range] at this
    show (List.filter _ _).length ≤ _
    omega
theorem prints_nice {rows : List Row} (h : ∀ r ∈ rows, ROk r) (hl : rows.length ≤ 40) : Nice (.tup ((printsL rows).map prD)) 2 3000000 := by
  have hlen : (printsL rows).length ≤ 8 * 40 := by
    have := flatMap_len (fun t => rowPr t (rowAt rows t)) 8 (List.range rows.length) fun t ht => rowPr_len (h _ (row_mem (List.mem_range.mp ht))) t
    rw [List.length_range] at this
    unfold printsL
    omega
  refine (Nice.tup (k := 1) ((NiceL.all (k := 1) (w := 7695) fun d hd => ?_))).mono (Nat.le_refl _) ?_
  · obtain ⟨q, hq, rfl⟩ := List.mem_map.mp hd
    obtain ⟨t, ht, hq2⟩ := List.mem_flatMap.mp hq
    have ht2 := List.mem_range.mp ht
    obtain ⟨p, hp, rfl⟩ := List.mem_map.mp hq2
    obtain ⟨s, hs, e⟩ := List.getElem_of_mem hp
    rw [List.getElem_zipIdx] at e
    have hr := h _ (row_mem ht2)
    have hf : FOk p.1 ∧ p.2 < 1000 := by
      rw [List.length_zipIdx] at hs
      rw [← e]
      generalize rowAt rows t = r at *
      cases hr with
      | order h1 h2 h3 h4 h5 h6 => exact ⟨h5 _ (List.getElem_mem _), by simp only [fillsOf] at hs; dsimp only; omega⟩
      | prints h5 h6 => exact ⟨h5 _ (List.getElem_mem _), by simp only [fillsOf] at hs; dsimp only; omega⟩
      | _ => cases hs
    refine (Nice.tup (((((NiceL.nil.mono (Nat.le_refl _) (Nat.le_refl _)).cons (.int hf.1.z.wide)).cons (.int hf.1.p.wide)).cons (.int (i := (p.2 : Int)) (sm_bd (by omega) (by omega)).wide)).cons (.int (i := (t : Int)) (sm_bd (by omega) (by omega)).wide))).mono (Nat.le_refl _) (by decide)
  · rw [List.length_map]
    have := Nat.mul_le_mul_left (7695 + 2) hlen
    omega
theorem prints_eq {S : Sto} (neg : Bool) {rows : List Row} (h : ∀ r ∈ rows, ROk r) (hl : rows.length ≤ 40) : eqO neg S (.tup ((printsL rows).map prD)) (.tup ((printsL rows).map prD)) = some (.bl (!neg)) := eq_nice neg (prints_nice h hl) (by decide)
theorem row_eq {S : Sto} (neg : Bool) {r : Row} (h : ROk r) : eqO neg S r.d r.d = some (.bl (!neg)) := eq_nice neg (nice_row h) (by decide)
theorem nm_wd {m : Str} (h : Nm m) : Wd m := by
  rcases h with rfl | rfl | rfl | rfl | rfl <;> exact fineW_ok (by decide +kernel)
theorem strs_nice {l : List Str} (h : ∀ x ∈ l, Wd x) (hl : l.length ≤ 40) : NiceL (l.map D.str) 0 (204 * 40) := by
  refine (NiceL.all (k := 0) (w := 202) fun d hd => ?_).mono (Nat.le_refl _) ?_
  · obtain ⟨x, hx, rfl⟩ := List.mem_map.mp hd
    exact Nice.str (h x hx).1 (h x hx).2
  · rw [List.length_map]
    exact Nat.mul_le_mul_left _ hl
theorem strs_eq {S : Sto} (neg : Bool) {l : List Str} (h : ∀ x ∈ l, Wd x) (hl : l.length ≤ 40) : eqO neg S (.lst (l.map D.str)) (.lst (l.map D.str)) = some (.bl (!neg)) := eq_nice neg (Nice.lst (strs_nice h hl)) (by decide)
theorem ord_eq {S : Sto} (neg : Bool) {r : Row} (h : ROk r) (ho : isOrd r = true) : eqO neg S (ordD r) (ordD r) = some (.bl (!neg)) := by
  cases h with
  | order h1 h2 h3 h4 h5 h6 =>
    rename_i m s p z fs
    have : Nice (ordD (.order m s p z fs)) 1 10000 := (Nice.tup (((((NiceL.nil.mono (Nat.le_refl _) (Nat.le_refl _)).cons (.int h4.wide)).cons (.int h3.wide)).cons (Nice.str h2.1 h2.2)).cons (Nice.str h1.1 h1.2))).mono (Nat.le_refl _) (by decide)
    exact eq_nice neg this (by decide)
  | _ => cases ho
/-! ### ranges by a step -/
theorem src_rng3 {r : Gs} {ρ : Rho} {S : Sto} {a b : Nat} (h : W2 (r ρ S) fun xs S1 => xs = [.int a, .int b, .int 3] ∧ S1 = S) (ha : a ≤ 1000) (hb : b ≤ 1000) : ∃ l : List Nat, (∀ t ∈ l, t < b) ∧ sRng3 r ρ S = some (l.map fun (k : Nat) => .int k, none, S) := by
  obtain ⟨xs, S1, e, rfl, rfl⟩ := h
  have hsz : Builtin.Range.rangeSize (a : Int) b 3 = if (a : Int) < b then ((b : Int) - a - 1) / 3 + 1 else 0 := by
    unfold Builtin.Range.rangeSize
    rw [if_pos (by decide)]
  refine ⟨(List.range (Builtin.Range.rangeSize (a : Int) b 3).toNat).map fun i => a + i * 3, fun t ht => ?_, ?_⟩
  · obtain ⟨i, hi, rfl⟩ := List.mem_map.mp ht
    have := List.mem_range.mp hi
    rw [hsz] at this
    split at this <;> omega
  · unfold sRng3
    rw [e]
    dsimp only
    rw [if_pos]
    · congr 3
      unfold intsStep
      rw [List.map_map]
      refine List.map_congr_left fun i _ => ?_
      simp only [Function.comp, D.int.injEq]
      omega
    · have hpos : 0 ≤ Builtin.Range.rangeSize (a : Int) b 3 ∧ Builtin.Range.rangeSize (a : Int) b 3 ≤ 1000 := by
        rw [hsz]
        split <;> omega
      refine ⟨by decide, by decide, ?_, by omega, by omega⟩
      have fits : ∀ i : Int, 0 ≤ i → i ≤ 100000 → Builtin.Range.rangeFitsLong i = true := by
        intro i h0 h1
        unfold Builtin.Range.rangeFitsLong
        simp only [Bool.and_eq_true, decide_eq_true_eq]
        constructor <;> omega
      unfold Builtin.Range.small
      rw [fits a (by omega) (by omega), fits b (by omega) (by omega), fits 3 (by decide) (by decide), fits _ hpos.1 (by omega), if_pos (by decide), fits _ (by omega) (by omega), Bool.or_true]
      rfl
end Gn
set_option Elab.async false
set_option linter.all false
set_option maxRecDepth 100000
set_option maxHeartbeats 4000000
namespace K7
open PySem PySem.Spec PyProof.Rows L2 FS
def topS (i : Nat) : Stmt := PySem.Challenge.pw_fairshown_k07_whole_views.main.body.getD i (.Pass ⟨0, 0, 0, 0⟩)
/-! ### is_integer -/
abbrev s_is_integer : Stmt := topS 13
abbrev N_is_integer : List Str := ["thing"]
theorem sc_is_integer : FnScope N_is_integer ["thing"] (defScope s_is_integer) := ⟨rfl, rfl, rfl, by decide +kernel, rfl, by decide +kernel, by decide +kernel⟩
abbrev b_is_integer : B := Gn.b_is_integer
abbrev F_is_integer : Fn := Gn.F_is_integer

/-! ### is_number -/
abbrev s_is_number : Stmt := topS 14
abbrev N_is_number : List Str := ["thing"]
theorem sc_is_number : FnScope N_is_number ["thing"] (defScope s_is_number) := ⟨rfl, rfl, rfl, by decide +kernel, rfl, by decide +kernel, by decide +kernel⟩
abbrev b_is_number : B := Gn.b_is_number
abbrev F_is_number : Fn := Gn.F_is_number

/-! ### is_size -/
abbrev s_is_size : Stmt := topS 15
abbrev N_is_size : List Str := ["thing"]
theorem sc_is_size : FnScope N_is_size ["thing"] (defScope s_is_size) := ⟨rfl, rfl, rfl, by decide +kernel, rfl, by decide +kernel, by decide +kernel⟩
abbrev b_is_size : B := Gn.b_is_size
abbrev F_is_size : Fn := Gn.F_is_size

/-! ### is_name -/
abbrev s_is_name : Stmt := topS 16
abbrev N_is_name : List Str := ["thing", "char"]
theorem sc_is_name : FnScope N_is_name ["thing"] (defScope s_is_name) := ⟨rfl, rfl, rfl, by decide +kernel, rfl, by decide +kernel, by decide +kernel⟩
abbrev b_is_name : B := Gn.b_is_name
abbrev F_is_name : Fn := Gn.F_is_name

/-! ### is_side -/
abbrev s_is_side : Stmt := topS 17
abbrev N_is_side : List Str := ["thing"]
theorem sc_is_side : FnScope N_is_side ["thing"] (defScope s_is_side) := ⟨rfl, rfl, rfl, by decide +kernel, rfl, by decide +kernel, by decide +kernel⟩
abbrev b_is_side : B := Gn.b_is_side
abbrev F_is_side : Fn := Gn.F_is_side

/-! ### is_rule -/
abbrev s_is_rule : Stmt := topS 18
abbrev N_is_rule : List Str := ["thing"]
theorem sc_is_rule : FnScope N_is_rule ["thing"] (defScope s_is_rule) := ⟨rfl, rfl, rfl, by decide +kernel, rfl, by decide +kernel, by decide +kernel⟩
abbrev b_is_rule : B := Gn.b_is_rule
abbrev F_is_rule : Fn := Gn.F_is_rule

/-! ### is_fill -/
abbrev s_is_fill : Stmt := topS 19
abbrev N_is_fill : List Str := ["thing"]
theorem sc_is_fill : FnScope N_is_fill ["thing"] (defScope s_is_fill) := ⟨rfl, rfl, rfl, by decide +kernel, rfl, by decide +kernel, by decide +kernel⟩
abbrev b_is_fill : B := Gn.b_is_fill
abbrev F_is_fill : Fn := Gn.F_is_fill

/-! ### are_fills -/
abbrev s_are_fills : Stmt := topS 20
abbrev N_are_fills : List Str := ["thing", "one"]
theorem sc_are_fills : FnScope N_are_fills ["thing"] (defScope s_are_fills) := ⟨rfl, rfl, rfl, by decide +kernel, rfl, by decide +kernel, by decide +kernel⟩
abbrev b_are_fills : B := Gn.b_are_fills
abbrev F_are_fills : Fn := Gn.F_are_fills

/-! ### is_pair -/
abbrev s_is_pair : Stmt := topS 21
abbrev N_is_pair : List Str := ["thing"]
theorem sc_is_pair : FnScope N_is_pair ["thing"] (defScope s_is_pair) := ⟨rfl, rfl, rfl, by decide +kernel, rfl, by decide +kernel, by decide +kernel⟩
abbrev b_is_pair : B := Gn.b_is_pair
abbrev F_is_pair : Fn := Gn.F_is_pair

/-! ### are_pairs -/
abbrev s_are_pairs : Stmt := topS 22
abbrev N_are_pairs : List Str := ["thing", "one", "other"]
theorem sc_are_pairs : FnScope N_are_pairs ["thing"] (defScope s_are_pairs) := ⟨rfl, rfl, rfl, by decide +kernel, rfl, by decide +kernel, by decide +kernel⟩
abbrev b_are_pairs : B := Gn.b_are_pairs
abbrev F_are_pairs : Fn := Gn.F_are_pairs

/-! ### is_order_row -/
abbrev s_is_order_row : Stmt := topS 23
abbrev N_is_order_row : List Str := ["thing"]
theorem sc_is_order_row : FnScope N_is_order_row ["thing"] (defScope s_is_order_row) := ⟨rfl, rfl, rfl, by decide +kernel, rfl, by decide +kernel, by decide +kernel⟩
abbrev b_is_order_row : B := Gn.b_is_order_row
abbrev F_is_order_row : Fn := Gn.F_is_order_row

/-! ### is_call_row -/
abbrev s_is_call_row : Stmt := topS 24
abbrev N_is_call_row : List Str := ["thing"]
theorem sc_is_call_row : FnScope N_is_call_row ["thing"] (defScope s_is_call_row) := ⟨rfl, rfl, rfl, by decide +kernel, rfl, by decide +kernel, by decide +kernel⟩
abbrev b_is_call_row : B := Gn.b_is_call_row
abbrev F_is_call_row : Fn := Gn.F_is_call_row

/-! ### is_row -/
abbrev s_is_row : Stmt := topS 25
abbrev N_is_row : List Str := ["thing"]
theorem sc_is_row : FnScope N_is_row ["thing"] (defScope s_is_row) := ⟨rfl, rfl, rfl, by decide +kernel, rfl, by decide +kernel, by decide +kernel⟩
abbrev b_is_row : B := Gn.b_is_row
abbrev F_is_row : Fn := Gn.F_is_row

/-! ### fills_in -/
abbrev s_fills_in : Stmt := topS 27
abbrev N_fills_in : List Str := ["row"]
theorem sc_fills_in : FnScope N_fills_in ["row"] (defScope s_fills_in) := ⟨rfl, rfl, rfl, by decide +kernel, rfl, by decide +kernel, by decide +kernel⟩
abbrev b_fills_in : B := Gn.b_fills_in
abbrev F_fills_in : Fn := Gn.F_fills_in

/-! ### lots_in -/
abbrev s_lots_in : Stmt := topS 28
abbrev N_lots_in : List Str := ["rows", "n", "t", "fills", "own", "size", "price"]
theorem sc_lots_in : FnScope N_lots_in ["rows", "n", "t", "fills"] (defScope s_lots_in) := ⟨rfl, rfl, rfl, by decide +kernel, rfl, by decide +kernel, by decide +kernel⟩
abbrev b_lots_in : B := Gn.b_lots_in
abbrev F_lots_in : Fn := Gn.F_lots_in

/-! ### lots_before -/
abbrev s_lots_before : Stmt := topS 29
abbrev N_lots_before : List Str := ["rows", "n", "t", "i", "found", "r"]
theorem sc_lots_before : FnScope N_lots_before ["rows", "n", "t", "i"] (defScope s_lots_before) := ⟨rfl, rfl, rfl, by decide +kernel, rfl, by decide +kernel, by decide +kernel⟩
abbrev b_lots_before : B := Gn.b_lots_before
abbrev F_lots_before : Fn := Gn.F_lots_before

/-! ### rest_of -/
abbrev s_rest_of : Stmt := topS 30
abbrev N_rest_of : List Str := ["rows", "n", "t", "i"]
theorem sc_rest_of : FnScope N_rest_of ["rows", "n", "t", "i"] (defScope s_rest_of) := ⟨rfl, rfl, rfl, by decide +kernel, rfl, by decide +kernel, by decide +kernel⟩
abbrev b_rest_of : B := Gn.b_rest_of
abbrev F_rest_of : Fn := Gn.F_rest_of

/-! ### is_open -/
abbrev s_is_open : Stmt := topS 31
abbrev N_is_open : List Str := ["rows", "n", "t", "i"]
theorem sc_is_open : FnScope N_is_open ["rows", "n", "t", "i"] (defScope s_is_open) := ⟨rfl, rfl, rfl, by decide +kernel, rfl, by decide +kernel, by decide +kernel⟩
abbrev b_is_open : B := Gn.b_is_open
abbrev F_is_open : Fn := Gn.F_is_open

/-! ### is_shut -/
abbrev s_is_shut : Stmt := topS 32
abbrev N_is_shut : List Str := ["rows", "t", "row"]
theorem sc_is_shut : FnScope N_is_shut ["rows", "t"] (defScope s_is_shut) := ⟨rfl, rfl, rfl, by decide +kernel, rfl, by decide +kernel, by decide +kernel⟩
abbrev b_is_shut : B := Gn.b_is_shut
abbrev F_is_shut : Fn := Gn.F_is_shut

/-! ### members_of -/
abbrev s_members_of : Stmt := topS 34
abbrev N_members_of : List Str := ["record", "row"]
theorem sc_members_of : FnScope N_members_of ["record"] (defScope s_members_of) := ⟨rfl, rfl, rfl, by decide +kernel, rfl, by decide +kernel, by decide +kernel⟩
abbrev b_members_of : B := Gn.b_members_of
abbrev F_members_of : Fn := Gn.F_members_of

/-! ### orders_of -/
abbrev s_orders_of : Stmt := topS 35
abbrev N_orders_of : List Str := ["record", "n", "row"]
theorem sc_orders_of : FnScope N_orders_of ["record"] (defScope s_orders_of) := ⟨rfl, rfl, rfl, by decide +kernel, rfl, by decide +kernel, by decide +kernel⟩
abbrev b_orders_of : B := Gn.b_orders_of
abbrev F_orders_of : Fn := Gn.F_orders_of

/-! ### require_order -/
abbrev s_require_order : Stmt := topS 36
abbrev N_require_order : List Str := ["record", "n"]
theorem sc_require_order : FnScope N_require_order ["record", "n"] (defScope s_require_order) := ⟨rfl, rfl, rfl, by decide +kernel, rfl, by decide +kernel, by decide +kernel⟩
abbrev b_require_order : B := Gn.b_require_order
abbrev F_require_order : Fn := Gn.F_require_order

/-! ### is_place -/
abbrev s_is_place : Stmt := topS 37
abbrev N_is_place : List Str := ["record", "t", "i", "rows"]
theorem sc_is_place : FnScope N_is_place ["record", "t", "i"] (defScope s_is_place) := ⟨rfl, rfl, rfl, by decide +kernel, rfl, by decide +kernel, by decide +kernel⟩
abbrev b_is_place : B := Gn.b_is_place
abbrev F_is_place : Fn := Gn.F_is_place

/-! ### require_place -/
abbrev s_require_place : Stmt := topS 38
abbrev N_require_place : List Str := ["record", "t", "i"]
theorem sc_require_place : FnScope N_require_place ["record", "t", "i"] (defScope s_require_place) := ⟨rfl, rfl, rfl, by decide +kernel, rfl, by decide +kernel, by decide +kernel⟩
abbrev b_require_place : B := Gn.b_require_place
abbrev F_require_place : Fn := Gn.F_require_place

/-! ### order_at -/
abbrev s_order_at : Stmt := topS 39
abbrev N_order_at : List Str := ["record", "n"]
theorem sc_order_at : FnScope N_order_at ["record", "n"] (defScope s_order_at) := ⟨rfl, rfl, rfl, by decide +kernel, rfl, by decide +kernel, by decide +kernel⟩
abbrev b_order_at : B := Gn.b_order_at
abbrev F_order_at : Fn := Gn.F_order_at

/-! ### rest_at -/
abbrev s_rest_at : Stmt := topS 40
abbrev N_rest_at : List Str := ["record", "n", "t", "i"]
theorem sc_rest_at : FnScope N_rest_at ["record", "n", "t", "i"] (defScope s_rest_at) := ⟨rfl, rfl, rfl, by decide +kernel, rfl, by decide +kernel, by decide +kernel⟩
abbrev b_rest_at : B := Gn.b_rest_at
abbrev F_rest_at : Fn := Gn.F_rest_at

/-! ### open_at -/
abbrev s_open_at : Stmt := topS 41
abbrev N_open_at : List Str := ["record", "t", "i", "n"]
theorem sc_open_at : FnScope N_open_at ["record", "t", "i"] (defScope s_open_at) := ⟨rfl, rfl, rfl, by decide +kernel, rfl, by decide +kernel, by decide +kernel⟩
abbrev b_open_at : B := Gn.b_open_at
abbrev F_open_at : Fn := Gn.F_open_at

/-! ### prints_of -/
abbrev s_prints_of : Stmt := topS 42
abbrev N_prints_of : List Str := ["record", "found", "t", "row", "i", "fill"]
theorem sc_prints_of : FnScope N_prints_of ["record"] (defScope s_prints_of) := ⟨rfl, rfl, rfl, by decide +kernel, rfl, by decide +kernel, by decide +kernel⟩
abbrev b_prints_of : B := Gn.b_prints_of
abbrev F_prints_of : Fn := Gn.F_prints_of

/-! ### traded -/
abbrev s_traded : Stmt := topS 43
abbrev N_traded : List Str := ["record", "n"]
theorem sc_traded : FnScope N_traded ["record", "n"] (defScope s_traded) := ⟨rfl, rfl, rfl, by decide +kernel, rfl, by decide +kernel, by decide +kernel⟩
abbrev b_traded : B := Gn.b_traded
abbrev F_traded : Fn := Gn.F_traded

/-! ### strange_fills -/
abbrev s_strange_fills : Stmt := topS 44
abbrev N_strange_fills : List Str := ["fills", "own", "price", "size", "n"]
theorem sc_strange_fills : FnScope N_strange_fills ["fills", "own"] (defScope s_strange_fills) := ⟨rfl, rfl, rfl, by decide +kernel, rfl, by decide +kernel, by decide +kernel⟩
abbrev b_strange_fills : B := Gn.b_strange_fills
abbrev F_strange_fills : Fn := Gn.F_strange_fills

/-! ### seen_row -/
abbrev s_seen_row : Stmt := topS 45
abbrev N_seen_row : List Str := ["row", "t", "own", "fills", "pair"]
theorem sc_seen_row : FnScope N_seen_row ["row", "t", "own"] (defScope s_seen_row) := ⟨rfl, rfl, rfl, by decide +kernel, rfl, by decide +kernel, by decide +kernel⟩
abbrev b_seen_row : B := Gn.b_seen_row
abbrev F_seen_row : Fn := Gn.F_seen_row

/-! ### seen -/
abbrev s_seen : Stmt := topS 46
abbrev N_seen : List Str := ["record", "members", "known", "member", "rule", "rows", "own", "n", "t", "row"]
theorem sc_seen : FnScope N_seen ["record", "members"] (defScope s_seen) := ⟨rfl, rfl, rfl, by decide +kernel, rfl, by decide +kernel, by decide +kernel⟩
abbrev b_seen : B := Gn.b_seen
abbrev F_seen : Fn := Gn.F_seen

/-! ### with_rule -/
abbrev s_with_rule : Stmt := topS 47
abbrev N_with_rule : List Str := ["record", "rule"]
theorem sc_with_rule : FnScope N_with_rule ["record", "rule"] (defScope s_with_rule) := ⟨rfl, rfl, rfl, by decide +kernel, rfl, by decide +kernel, by decide +kernel⟩
abbrev b_with_rule : B := Gn.b_with_rule
abbrev F_with_rule : Fn := Gn.F_with_rule

/-! ### cut -/
abbrev s_cut : Stmt := topS 48
abbrev N_cut : List Str := ["record", "t"]
theorem sc_cut : FnScope N_cut ["record", "t"] (defScope s_cut) := ⟨rfl, rfl, rfl, by decide +kernel, rfl, by decide +kernel, by decide +kernel⟩
abbrev b_cut : B := Gn.b_cut
abbrev F_cut : Fn := Gn.F_cut

/-! ### require -/
abbrev s_require : Stmt := topS 51
abbrev N_require : List Str := ["condition", "word", "at"]
theorem sc_require : FnScope N_require ["condition", "word", "at"] (defScope s_require) := ⟨rfl, rfl, rfl, by decide +kernel, rfl, by decide +kernel, by decide +kernel⟩
abbrev b_require : B := Gn.b_require
abbrev F_require : Fn := Gn.F_require

/-! ### has_shape -/
abbrev s_has_shape : Stmt := topS 52
abbrev N_has_shape : List Str := ["thing", "row"]
theorem sc_has_shape : FnScope N_has_shape ["thing"] (defScope s_has_shape) := ⟨rfl, rfl, rfl, by decide +kernel, rfl, by decide +kernel, by decide +kernel⟩
abbrev b_has_shape : B := Gn.b_has_shape
abbrev F_has_shape : Fn := Gn.F_has_shape

/-! ### is_within -/
abbrev s_is_within : Stmt := topS 53
abbrev N_is_within : List Str := ["side", "limit", "price"]
theorem sc_is_within : FnScope N_is_within ["side", "limit", "price"] (defScope s_is_within) := ⟨rfl, rfl, rfl, by decide +kernel, rfl, by decide +kernel, by decide +kernel⟩
abbrev b_is_within : B := Gn.b_is_within
abbrev F_is_within : Fn := Gn.F_is_within

/-! ### check_closed -/
abbrev s_check_closed : Stmt := topS 54
abbrev N_check_closed : List Str := ["rows", "t", "word"]
theorem sc_check_closed : FnScope N_check_closed ["rows", "t"] (defScope s_check_closed) := ⟨rfl, rfl, rfl, by decide +kernel, rfl, by decide +kernel, by decide +kernel⟩
abbrev b_check_closed : B := Gn.b_check_closed
abbrev F_check_closed : Fn := Gn.F_check_closed

/-! ### check_resting -/
abbrev s_check_resting : Stmt := topS 55
abbrev N_check_resting : List Str := ["rows", "t", "i", "n"]
theorem sc_check_resting : FnScope N_check_resting ["rows", "t", "i"] (defScope s_check_resting) := ⟨rfl, rfl, rfl, by decide +kernel, rfl, by decide +kernel, by decide +kernel⟩
abbrev b_check_resting : B := Gn.b_check_resting
abbrev F_check_resting : Fn := Gn.F_check_resting

/-! ### check_own -/
abbrev s_check_own : Stmt := topS 56
abbrev N_check_own : List Str := ["rows", "t", "i", "word", "member", "side", "limit", "size", "fills", "price", "lots", "n", "left", "fill"]
theorem sc_check_own : FnScope N_check_own ["rows", "t", "i"] (defScope s_check_own) := ⟨rfl, rfl, rfl, by decide +kernel, rfl, by decide +kernel, by decide +kernel⟩
abbrev b_check_own : B := Gn.b_check_own
abbrev F_check_own : Fn := Gn.F_check_own

/-! ### check_print -/
abbrev s_check_print : Stmt := topS 57
abbrev N_check_print : List Str := ["rows", "t", "i", "price", "lots", "n"]
theorem sc_check_print : FnScope N_check_print ["rows", "t", "i"] (defScope s_check_print) := ⟨rfl, rfl, rfl, by decide +kernel, rfl, by decide +kernel, by decide +kernel⟩
abbrev b_check_print : B := Gn.b_check_print
abbrev F_check_print : Fn := Gn.F_check_print

/-! ### check_call -/
abbrev s_check_call : Stmt := topS 58
abbrev N_check_call : List Str := ["rows", "t", "i", "n", "lots"]
theorem sc_check_call : FnScope N_check_call ["rows", "t"] (defScope s_check_call) := ⟨rfl, rfl, rfl, by decide +kernel, rfl, by decide +kernel, by decide +kernel⟩
abbrev b_check_call : B := Gn.b_check_call
abbrev F_check_call : Fn := Gn.F_check_call

/-! ### check_row -/
abbrev s_check_row : Stmt := topS 59
abbrev N_check_row : List Str := ["rows", "t", "i"]
theorem sc_check_row : FnScope N_check_row ["rows", "t"] (defScope s_check_row) := ⟨rfl, rfl, rfl, by decide +kernel, rfl, by decide +kernel, by decide +kernel⟩
abbrev b_check_row : B := Gn.b_check_row
abbrev F_check_row : Fn := Gn.F_check_row

/-! ### lets_record -/
abbrev s_lets_record : Stmt := topS 60
abbrev N_lets_record : List Str := ["thing", "rule", "rows", "t"]
theorem sc_lets_record : FnScope N_lets_record ["thing"] (defScope s_lets_record) := ⟨rfl, rfl, rfl, by decide +kernel, rfl, by decide +kernel, by decide +kernel⟩
abbrev b_lets_record : B := Gn.b_lets_record
abbrev F_lets_record : Fn := Gn.F_lets_record

/-! ### _law_reader -/
abbrev s__law_reader : Stmt := topS 62
abbrev N__law_reader : List Str := ["_law_script"]
theorem sc__law_reader : FnScope N__law_reader ["_law_script"] (defScope s__law_reader) := ⟨rfl, rfl, rfl, by decide +kernel, rfl, by decide +kernel, by decide +kernel⟩
abbrev b__law_reader : B := Gn.b__law_reader
abbrev F__law_reader : Fn := Gn.F__law_reader

/-! ### _law_draw -/
abbrev s__law_draw : Stmt := topS 63
abbrev N__law_draw : List Str := ["_law_reader_here", "_law_many", "_law_calls", "_law_figure", "_law_spot", "_law_cells", "_law_cell", "_law_once"]
theorem sc__law_draw : FnScope N__law_draw ["_law_reader_here", "_law_many"] (defScope s__law_draw) := ⟨rfl, rfl, rfl, by decide +kernel, rfl, by decide +kernel, by decide +kernel⟩
abbrev b__law_draw : B := Gn.b__law_draw
abbrev F__law_draw : Fn := Gn.F__law_draw

/-! ### _law_fills -/
abbrev s__law_fills : Stmt := topS 64
abbrev N__law_fills : List Str := ["_law_row"]
theorem sc__law_fills : FnScope N__law_fills ["_law_row"] (defScope s__law_fills) := ⟨rfl, rfl, rfl, by decide +kernel, rfl, by decide +kernel, by decide +kernel⟩
abbrev b__law_fills : B := Gn.b__law_fills
abbrev F__law_fills : Fn := Gn.F__law_fills

/-! ### _law_trades -/
abbrev s__law_trades : Stmt := topS 65
abbrev N__law_trades : List Str := ["_law_rows", "_law_t", "_law_i", "_law_found", "_law_s", "_law_row", "_law_price", "_law_size", "_law_n"]
theorem sc__law_trades : FnScope N__law_trades ["_law_rows", "_law_t", "_law_i"] (defScope s__law_trades) := ⟨rfl, rfl, rfl, by decide +kernel, rfl, by decide +kernel, by decide +kernel⟩
abbrev b__law_trades : B := Gn.b__law_trades
abbrev F__law_trades : Fn := Gn.F__law_trades

/-! ### _law_rest -/
abbrev s__law_rest : Stmt := topS 66
abbrev N__law_rest : List Str := ["_law_rows", "_law_n", "_law_t", "_law_i", "_law_m", "_law_size"]
theorem sc__law_rest : FnScope N__law_rest ["_law_rows", "_law_n", "_law_t", "_law_i"] (defScope s__law_rest) := ⟨rfl, rfl, rfl, by decide +kernel, rfl, by decide +kernel, by decide +kernel⟩
abbrev b__law_rest : B := Gn.b__law_rest
abbrev F__law_rest : Fn := Gn.F__law_rest

/-! ### _law_orders -/
abbrev s__law_orders : Stmt := topS 67
abbrev N__law_orders : List Str := ["_law_rows", "_law_k"]
theorem sc__law_orders : FnScope N__law_orders ["_law_rows"] (defScope s__law_orders) := ⟨rfl, rfl, rfl, by decide +kernel, rfl, by decide +kernel, by decide +kernel⟩
abbrev b__law_orders : B := Gn.b__law_orders
abbrev F__law_orders : Fn := Gn.F__law_orders

/-! ### _law_open -/
abbrev s__law_open : Stmt := topS 68
abbrev N__law_open : List Str := ["_law_rows", "_law_t", "_law_i", "_law_gone", "_law_traded_now", "_law_n", "_law_size", "_law_found", "_law_row"]
theorem sc__law_open : FnScope N__law_open ["_law_rows", "_law_t", "_law_i"] (defScope s__law_open) := ⟨rfl, rfl, rfl, by decide +kernel, rfl, by decide +kernel, by decide +kernel⟩
abbrev b__law_open : B := Gn.b__law_open
abbrev F__law_open : Fn := Gn.F__law_open

/-! ### _law_is_shut -/
abbrev s__law_is_shut : Stmt := topS 69
abbrev N__law_is_shut : List Str := ["_law_rows", "_law_t", "_law_row"]
theorem sc__law_is_shut : FnScope N__law_is_shut ["_law_rows", "_law_t"] (defScope s__law_is_shut) := ⟨rfl, rfl, rfl, by decide +kernel, rfl, by decide +kernel, by decide +kernel⟩
abbrev b__law_is_shut : B := Gn.b__law_is_shut
abbrev F__law_is_shut : Fn := Gn.F__law_is_shut

/-! ### _law_new_fills -/
abbrev s__law_new_fills : Stmt := topS 70
abbrev N__law_new_fills : List Str := ["_law_reader_here", "_law_rows", "_law_most", "_law_left", "_law_side", "_law_limit", "_law_found", "_law_t", "_law_k", "_law_late", "_law_there", "_law_used", "_law_n", "_law_room", "_law_price", "_law_one"]
theorem sc__law_new_fills : FnScope N__law_new_fills ["_law_reader_here", "_law_rows", "_law_most", "_law_left", "_law_side", "_law_limit"] (defScope s__law_new_fills) := ⟨rfl, rfl, rfl, by decide +kernel, rfl, by decide +kernel, by decide +kernel⟩
abbrev b__law_new_fills : B := Gn.b__law_new_fills
abbrev F__law_new_fills : Fn := Gn.F__law_new_fills

/-! ### _law_new_row -/
abbrev s__law_new_row : Stmt := topS 71
abbrev N__law_new_row : List Str := ["_law_reader_here", "_law_rows", "_law_t", "_law_shut_now", "_law_there", "_law_way", "_law_price", "_law_good", "_law_pairs", "_law_side", "_law_size", "_law_member", "_law_taken", "_law_n"]
theorem sc__law_new_row : FnScope N__law_new_row ["_law_reader_here", "_law_rows"] (defScope s__law_new_row) := ⟨rfl, rfl, rfl, by decide +kernel, rfl, by decide +kernel, by decide +kernel⟩
abbrev b__law_new_row : B := Gn.b__law_new_row
abbrev F__law_new_row : Fn := Gn.F__law_new_row

/-! ### _law_random_rows -/
abbrev s__law_random_rows : Stmt := topS 72
abbrev N__law_random_rows : List Str := ["_law_reader_here", "_law_most", "_law_rows", "_law_k"]
theorem sc__law_random_rows : FnScope N__law_random_rows ["_law_reader_here", "_law_most"] (defScope s__law_random_rows) := ⟨rfl, rfl, rfl, by decide +kernel, rfl, by decide +kernel, by decide +kernel⟩
abbrev b__law_random_rows : B := Gn.b__law_random_rows
abbrev F__law_random_rows : Fn := Gn.F__law_random_rows

/-! ### _law_random_record -/
abbrev s__law_random_record : Stmt := topS 73
abbrev N__law_random_record : List Str := ["_law_reader_here", "_law_most"]
theorem sc__law_random_record : FnScope N__law_random_record ["_law_reader_here", "_law_most"] (defScope s__law_random_record) := ⟨rfl, rfl, rfl, by decide +kernel, rfl, by decide +kernel, by decide +kernel⟩
abbrev b__law_random_record : B := Gn.b__law_random_record
abbrev F__law_random_record : Fn := Gn.F__law_random_record

/-! ### _law_fixed_records -/
abbrev s__law_fixed_records : Stmt := topS 74
abbrev N__law_fixed_records : List Str := ["_law_first", "_law_shut", "_law_late"]
theorem sc__law_fixed_records : FnScope N__law_fixed_records [] (defScope s__law_fixed_records) := ⟨rfl, rfl, rfl, by decide +kernel, rfl, by decide +kernel, by decide +kernel⟩
abbrev b__law_fixed_records : B := Gn.b__law_fixed_records
abbrev F__law_fixed_records : Fn := Gn.F__law_fixed_records

/-! ### _law_groups -/
abbrev s__law_groups : Stmt := topS 75
abbrev N__law_groups : List Str := ["_law_some", "_law_found", "_law_name", "_law_group"]
theorem sc__law_groups : FnScope N__law_groups ["_law_some"] (defScope s__law_groups) := ⟨rfl, rfl, rfl, by decide +kernel, rfl, by decide +kernel, by decide +kernel⟩
def b__law_groups : B := (cSeq (cSet 1 (cLst (cCons (cLst cNil) cNil)))
    (cSeq (cFor (sSeq (cVar 0)) (gNm 2) (cSet 1 (cBin addO (cVar 1) (cLc (sSeq (cVar 1)) (gNm 3) cYes (cBin addO (cVar 3) (cLst (cCons (cVar 2) cNil))) [3]))))
    (cRet (cVar 1))))
def F__law_groups : Fn := settled (runFn 1 4 b__law_groups)

/-! ### _law_check_view -/
abbrev s__law_check_view : Stmt := topS 76
abbrev N__law_check_view : List Str := ["_law_good", "_law_some", "_law_way", "_law_view", "_law_own", "_law_n", "_law_t"]
theorem sc__law_check_view : FnScope N__law_check_view ["_law_good", "_law_some", "_law_way"] (defScope s__law_check_view) := ⟨rfl, rfl, rfl, by decide +kernel, rfl, by decide +kernel, by decide +kernel⟩
def b__law_check_view : B := (cSeq (cSet 3 (cCall F_seen [] (cCons (cVar 0) (cCons (cVar 1) cNil))))
    (cSeq (cIfS (cOrT (cTest (cBin (eqO true) (cCall F_lets_record [] (cCons (cVar 3) cNil)) (cCall F_lets_record [] (cCons (cVar 0) cNil)))) (cTest (cBin (eqO true) (cBin ixO (cVar 3) (cC (.int 0))) (cBin ixO (cVar 0) (cC (.int 0)))))) (cRet (cC (.bl false))) cNx)
    (cSeq (cIfS (cTest (cBin (eqO true) (cCall F_prints_of [] (cCons (cVar 3) cNil)) (cCall F_prints_of [] (cCons (cVar 0) cNil)))) (cRet (cC (.bl false))) cNx)
    (cSeq (cIfS (cTest (cBin (eqO true) (cOp listO (cCons (cCall F_members_of [] (cCons (cVar 3) cNil)) cNil)) (cSortT (cVar 1)))) (cRet (cC (.bl false))) cNx)
    (cSeq (cSet 4 (cOp tupleO (cCons (cLc (sSeq (cCall F_orders_of [] (cCons (cVar 0) cNil))) (gNm 5) (cTest (cBin (inO false) (cBin ixO (cCall F_order_at [] (cCons (cVar 0) (cCons (cVar 5) cNil))) (cC (.int 0))) (cVar 1))) (cVar 5) [5]) cNil)))
    (cSeq (cIfS (cOrT (cTest (cBin (eqO true) (cCall F_orders_of [] (cCons (cVar 3) cNil)) (cVar 4))) (cTest (cBin (eqO true) (cLc (sSeq (cVar 4)) (gNm 5) (cTest (cBin (eqO true) (cCall F_order_at [] (cCons (cVar 3) (cCons (cVar 5) cNil))) (cCall F_order_at [] (cCons (cVar 0) (cCons (cVar 5) cNil))))) (cVar 5) [5]) (cLst cNil)))) (cRet (cC (.bl false))) cNx)
    (cSeq (cFor (sSeq (cVar 4)) (gNm 5) (cIfS (cTest (cBin (eqO true) (cCall F_traded [] (cCons (cVar 3) (cCons (cVar 5) cNil))) (cCall F_traded [] (cCons (cVar 0) (cCons (cVar 5) cNil))))) (cRet (cC (.bl false))) cNx))
    (cSeq (cFor (sRng3 (cCons (cVar 2) (cCons (cBin addO (cOp lenO (cCons (cBin ixO (cVar 0) (cC (.int 1))) cNil)) (cC (.int 1))) (cCons (cC (.int 3)) cNil)))) (gNm 6) (cSeq (cIfS (cTest (cBin (eqO true) (cCall F_open_at [.int 0] (cCons (cVar 3) (cCons (cVar 6) cNil))) (cOp tupleO (cCons (cLc (sSeq (cCall F_open_at [.int 0] (cCons (cVar 0) (cCons (cVar 6) cNil)))) (gNm 5) (cTest (cBin (inO false) (cVar 5) (cVar 4))) (cVar 5) [5]) cNil)))) (cRet (cC (.bl false))) cNx)
    (cSeq (cIfS (cTest (cBin (eqO true) (cLc (sSeq (cVar 4)) (gNm 5) (cTest (cBin (eqO true) (cCall F_rest_at [.int 0] (cCons (cVar 3) (cCons (cVar 5) (cCons (cVar 6) cNil)))) (cCall F_rest_at [.int 0] (cCons (cVar 0) (cCons (cVar 5) (cCons (cVar 6) cNil)))))) (cVar 5) [5]) (cLst cNil))) (cRet (cC (.bl false))) cNx)
    (cIfS (cAndT (cTest (cBin ltO (cVar 6) (cOp lenO (cCons (cBin ixO (cVar 0) (cC (.int 1))) cNil)))) (cTest (cBin (eqO true) (cBin ixO (cBin ixO (cCall F_cut [] (cCons (cVar 3) (cCons (cBin addO (cVar 6) (cC (.int 1))) cNil))) (cC (.int 1))) (cVar 6)) (cBin ixO (cBin ixO (cVar 3) (cC (.int 1))) (cVar 6))))) (cRet (cC (.bl false))) cNx))))
    (cRet (cBin (eqO false) (cCall F_seen [] (cCons (cVar 3) (cCons (cVar 1) cNil))) (cVar 3)))))))))))
def F__law_check_view : Fn := settled (runFn 3 7 b__law_check_view)

/-! ### _law_check_beginnings -/
abbrev s__law_check_beginnings : Stmt := topS 77
abbrev N__law_check_beginnings : List Str := ["_law_good", "_law_some", "_law_way", "_law_t", "_law_late", "_law_there", "_law_name"]
theorem sc__law_check_beginnings : FnScope N__law_check_beginnings ["_law_good", "_law_some", "_law_way"] (defScope s__law_check_beginnings) := ⟨rfl, rfl, rfl, by decide +kernel, rfl, by decide +kernel, by decide +kernel⟩
def b__law_check_beginnings : B := (cSeq (cFor (sRng3 (cCons (cVar 2) (cCons (cBin addO (cOp lenO (cCons (cBin ixO (cVar 0) (cC (.int 1))) cNil)) (cC (.int 1))) (cCons (cC (.int 3)) cNil)))) (gNm 3) (cSeq (cSet 4 (cCall F_cut [] (cCons (cVar 0) (cCons (cVar 3) cNil))))
    (cSeq (cSet 5 (cOp tupleO (cCons (cLc (sSeq (cVar 1)) (gNm 6) (cTest (cBin (inO false) (cVar 6) (cCall F_members_of [] (cCons (cVar 4) cNil)))) (cVar 6) [6]) cNil)))
    (cIfS (cTest (cBin (eqO true) (cCall F_seen [] (cCons (cVar 4) (cCons (cVar 5) cNil))) (cCall F_cut [] (cCons (cCall F_seen [] (cCons (cVar 0) (cCons (cVar 1) cNil))) (cCons (cVar 3) cNil))))) (cRet (cC (.bl false))) cNx))))
    (cRet (cC (.bl true))))
def F__law_check_beginnings : Fn := settled (runFn 3 7 b__law_check_beginnings)

/-! ### law -/
abbrev s_law : Stmt := topS 78
abbrev N_law : List Str := ["_law_script", "_law_reader_here", "_law_lots", "_law_turn", "_law_good", "_law_members", "_law_some", "_law_way", "_law_group", "_law_rule", "_law_late"]
theorem sc_law : FnScope N_law ["_law_script"] (defScope s_law) := ⟨rfl, rfl, rfl, by decide +kernel, rfl, by decide +kernel, by decide +kernel⟩
def b_law : B := (cSeq (cSet 1 (cCall F__law_reader [] (cCons (cVar 0) cNil)))
    (cSeq (cSet 2 (cCall F__law_fixed_records [] cNil))
    (cSeq (cFor (sRng1 (cCons (cC (.int 2)) cNil)) (gNm 3) (cDrop (cMeth isL appendO (cVar 2) (cCons (cCall F__law_random_record [] (cCons (cVar 1) (cCons (cC (.int 7)) cNil))) cNil))))
    (cSeq (cFor (sSeq (cVar 2)) (gNm 4) (cSeq (cSet 5 (cOp listO (cCons (cCall F_members_of [] (cCons (cVar 4) cNil)) cNil)))
    (cSeq (cIfS (cTest (cBin (eqO true) (cCall F_seen [] (cCons (cVar 4) (cCons (cOp tupleO (cCons (cVar 5) cNil)) cNil))) (cVar 4))) (cRet (cC (.bl false))) cNx)
    (cSeq (cIfS (cTest (cBin (eqO true) (cCall F_with_rule [] (cCons (cCall F_with_rule [] (cCons (cVar 4) (cCons (cC (.str "late")) cNil))) (cCons (cBin ixO (cVar 4) (cC (.int 0))) cNil))) (cVar 4))) (cRet (cC (.bl false))) cNx)
    (cSeq (cFor (sSeq (cCall F__law_groups [] (cCons (cVar 5) cNil))) (gNm 6) (cSeq (cSet 7 (cCall F__law_draw [] (cCons (cVar 1) (cCons (cC (.int 3)) cNil))))
    (cSeq (cIfS (cNotT (cTest (cCall F__law_check_view [] (cCons (cVar 4) (cCons (cOp tupleO (cCons (cVar 6) cNil)) (cCons (cVar 7) cNil)))))) (cRet (cC (.bl false))) cNx)
    (cSeq (cIfS (cNotT (cTest (cCall F__law_check_beginnings [] (cCons (cVar 4) (cCons (cOp tupleO (cCons (cVar 6) cNil)) (cCons (cVar 7) cNil)))))) (cRet (cC (.bl false))) cNx)
    (cSeq (cFor (sSeq (cSl3 (cCall F__law_groups [] (cCons (cVar 6) cNil)) (cP (cVar 7)) cNoP (cP (cC (.int 3))))) (gNm 8) (cIfS (cTest (cBin (eqO true) (cCall F_seen [] (cCons (cCall F_seen [] (cCons (cVar 4) (cCons (cOp tupleO (cCons (cVar 6) cNil)) cNil))) (cCons (cOp tupleO (cCons (cVar 8) cNil)) cNil))) (cCall F_seen [] (cCons (cVar 4) (cCons (cOp tupleO (cCons (cVar 8) cNil)) cNil))))) (cRet (cC (.bl false))) cNx))
    (cIfS (cTest (cBin (eqO true) (cCall F_with_rule [] (cCons (cCall F_seen [] (cCons (cVar 4) (cCons (cOp tupleO (cCons (cVar 6) cNil)) cNil))) (cCons (cC (.str "price")) cNil))) (cCall F_seen [] (cCons (cCall F_with_rule [] (cCons (cVar 4) (cCons (cC (.str "price")) cNil))) (cCons (cOp tupleO (cCons (cVar 6) cNil)) cNil))))) (cRet (cC (.bl false))) cNx))))))
    (cFor (sSeq (cTup (cCons (cC (.str "time")) (cCons (cC (.str "late")) (cCons (cC (.str "price")) cNil))))) (gNm 9) (cSeq (cSet 10 (cCall F_with_rule [] (cCons (cVar 4) (cCons (cVar 9) cNil))))
    (cIfS (cOrT (cTest (cBin (eqO true) (cCall F_lets_record [] (cCons (cVar 10) cNil)) (cOp lenO (cCons (cBin ixO (cVar 4) (cC (.int 1))) cNil)))) (cOrT (cTest (cBin (eqO true) (cBin ixO (cVar 10) (cC (.int 1))) (cBin ixO (cVar 4) (cC (.int 1))))) (cTest (cBin (eqO true) (cBin ixO (cVar 10) (cC (.int 0))) (cVar 9))))) (cRet (cC (.bl false))) cNx))))))))
    (cRet (cC (.bl true)))))))
def F_law : Fn := settled (runFn 1 11 b_law)

/-! ### what the top has left -/
structure Txt (K : PySem.W.Frag) (mg : Str → Option Value) where
  f_is_integer : Addr
  fd_is_integer : FuncData
  F_is_integer : Fun K "is_integer" "is_integer" s_is_integer f_is_integer fd_is_integer
  g_is_integer : mg "is_integer" = some (.ref f_is_integer)
  b_is_integer : Binds K fd_is_integer ["thing"] []
  f_is_number : Addr
  fd_is_number : FuncData
  F_is_number : Fun K "is_number" "is_number" s_is_number f_is_number fd_is_number
  g_is_number : mg "is_number" = some (.ref f_is_number)
  b_is_number : Binds K fd_is_number ["thing"] []
  f_is_size : Addr
  fd_is_size : FuncData
  F_is_size : Fun K "is_size" "is_size" s_is_size f_is_size fd_is_size
  g_is_size : mg "is_size" = some (.ref f_is_size)
  b_is_size : Binds K fd_is_size ["thing"] []
  f_is_name : Addr
  fd_is_name : FuncData
  F_is_name : Fun K "is_name" "is_name" s_is_name f_is_name fd_is_name
  g_is_name : mg "is_name" = some (.ref f_is_name)
  b_is_name : Binds K fd_is_name ["thing"] []
  f_is_side : Addr
  fd_is_side : FuncData
  F_is_side : Fun K "is_side" "is_side" s_is_side f_is_side fd_is_side
  g_is_side : mg "is_side" = some (.ref f_is_side)
  b_is_side : Binds K fd_is_side ["thing"] []
  f_is_rule : Addr
  fd_is_rule : FuncData
  F_is_rule : Fun K "is_rule" "is_rule" s_is_rule f_is_rule fd_is_rule
  g_is_rule : mg "is_rule" = some (.ref f_is_rule)
  b_is_rule : Binds K fd_is_rule ["thing"] []
  f_is_fill : Addr
  fd_is_fill : FuncData
  F_is_fill : Fun K "is_fill" "is_fill" s_is_fill f_is_fill fd_is_fill
  g_is_fill : mg "is_fill" = some (.ref f_is_fill)
  b_is_fill : Binds K fd_is_fill ["thing"] []
  f_are_fills : Addr
  fd_are_fills : FuncData
  F_are_fills : Fun K "are_fills" "are_fills" s_are_fills f_are_fills fd_are_fills
  g_are_fills : mg "are_fills" = some (.ref f_are_fills)
  b_are_fills : Binds K fd_are_fills ["thing"] []
  f_is_pair : Addr
  fd_is_pair : FuncData
  F_is_pair : Fun K "is_pair" "is_pair" s_is_pair f_is_pair fd_is_pair
  g_is_pair : mg "is_pair" = some (.ref f_is_pair)
  b_is_pair : Binds K fd_is_pair ["thing"] []
  f_are_pairs : Addr
  fd_are_pairs : FuncData
  F_are_pairs : Fun K "are_pairs" "are_pairs" s_are_pairs f_are_pairs fd_are_pairs
  g_are_pairs : mg "are_pairs" = some (.ref f_are_pairs)
  b_are_pairs : Binds K fd_are_pairs ["thing"] []
  f_is_order_row : Addr
  fd_is_order_row : FuncData
  F_is_order_row : Fun K "is_order_row" "is_order_row" s_is_order_row f_is_order_row fd_is_order_row
  g_is_order_row : mg "is_order_row" = some (.ref f_is_order_row)
  b_is_order_row : Binds K fd_is_order_row ["thing"] []
  f_is_call_row : Addr
  fd_is_call_row : FuncData
  F_is_call_row : Fun K "is_call_row" "is_call_row" s_is_call_row f_is_call_row fd_is_call_row
  g_is_call_row : mg "is_call_row" = some (.ref f_is_call_row)
  b_is_call_row : Binds K fd_is_call_row ["thing"] []
  f_is_row : Addr
  fd_is_row : FuncData
  F_is_row : Fun K "is_row" "is_row" s_is_row f_is_row fd_is_row
  g_is_row : mg "is_row" = some (.ref f_is_row)
  b_is_row : Binds K fd_is_row ["thing"] []
  f_fills_in : Addr
  fd_fills_in : FuncData
  F_fills_in : Fun K "fills_in" "fills_in" s_fills_in f_fills_in fd_fills_in
  g_fills_in : mg "fills_in" = some (.ref f_fills_in)
  b_fills_in : Binds K fd_fills_in ["row"] []
  f_lots_in : Addr
  fd_lots_in : FuncData
  F_lots_in : Fun K "lots_in" "lots_in" s_lots_in f_lots_in fd_lots_in
  g_lots_in : mg "lots_in" = some (.ref f_lots_in)
  b_lots_in : Binds K fd_lots_in ["rows", "n", "t", "fills"] []
  f_lots_before : Addr
  fd_lots_before : FuncData
  F_lots_before : Fun K "lots_before" "lots_before" s_lots_before f_lots_before fd_lots_before
  g_lots_before : mg "lots_before" = some (.ref f_lots_before)
  b_lots_before : Binds K fd_lots_before ["rows", "n", "t", "i"] []
  f_rest_of : Addr
  fd_rest_of : FuncData
  F_rest_of : Fun K "rest_of" "rest_of" s_rest_of f_rest_of fd_rest_of
  g_rest_of : mg "rest_of" = some (.ref f_rest_of)
  b_rest_of : Binds K fd_rest_of ["rows", "n", "t", "i"] []
  f_is_open : Addr
  fd_is_open : FuncData
  F_is_open : Fun K "is_open" "is_open" s_is_open f_is_open fd_is_open
  g_is_open : mg "is_open" = some (.ref f_is_open)
  b_is_open : Binds K fd_is_open ["rows", "n", "t", "i"] []
  f_is_shut : Addr
  fd_is_shut : FuncData
  F_is_shut : Fun K "is_shut" "is_shut" s_is_shut f_is_shut fd_is_shut
  g_is_shut : mg "is_shut" = some (.ref f_is_shut)
  b_is_shut : Binds K fd_is_shut ["rows", "t"] []
  f_members_of : Addr
  fd_members_of : FuncData
  F_members_of : Fun K "members_of" "members_of" s_members_of f_members_of fd_members_of
  g_members_of : mg "members_of" = some (.ref f_members_of)
  b_members_of : Binds K fd_members_of ["record"] []
  f_orders_of : Addr
  fd_orders_of : FuncData
  F_orders_of : Fun K "orders_of" "orders_of" s_orders_of f_orders_of fd_orders_of
  g_orders_of : mg "orders_of" = some (.ref f_orders_of)
  b_orders_of : Binds K fd_orders_of ["record"] []
  f_require_order : Addr
  fd_require_order : FuncData
  F_require_order : Fun K "require_order" "require_order" s_require_order f_require_order fd_require_order
  g_require_order : mg "require_order" = some (.ref f_require_order)
  b_require_order : Binds K fd_require_order ["record", "n"] []
  f_is_place : Addr
  fd_is_place : FuncData
  F_is_place : Fun K "is_place" "is_place" s_is_place f_is_place fd_is_place
  g_is_place : mg "is_place" = some (.ref f_is_place)
  b_is_place : Binds K fd_is_place ["record", "t", "i"] []
  f_require_place : Addr
  fd_require_place : FuncData
  F_require_place : Fun K "require_place" "require_place" s_require_place f_require_place fd_require_place
  g_require_place : mg "require_place" = some (.ref f_require_place)
  b_require_place : Binds K fd_require_place ["record", "t", "i"] []
  f_order_at : Addr
  fd_order_at : FuncData
  F_order_at : Fun K "order_at" "order_at" s_order_at f_order_at fd_order_at
  g_order_at : mg "order_at" = some (.ref f_order_at)
  b_order_at : Binds K fd_order_at ["record", "n"] []
  f_rest_at : Addr
  fd_rest_at : FuncData
  F_rest_at : FunD K "rest_at" "rest_at" (defArgs s_rest_at) (defBody s_rest_at) (defScope s_rest_at) [V.int 0] [] f_rest_at fd_rest_at
  g_rest_at : mg "rest_at" = some (.ref f_rest_at)
  b_rest_at : Binds K fd_rest_at ["record", "n", "t", "i"] []
  p_rest_at : ∃ ds, Vals [V.int 0] ds ∧ Binds K fd_rest_at ["record", "n", "t", "i"] ds
  f_open_at : Addr
  fd_open_at : FuncData
  F_open_at : FunD K "open_at" "open_at" (defArgs s_open_at) (defBody s_open_at) (defScope s_open_at) [V.int 0] [] f_open_at fd_open_at
  g_open_at : mg "open_at" = some (.ref f_open_at)
  b_open_at : Binds K fd_open_at ["record", "t", "i"] []
  p_open_at : ∃ ds, Vals [V.int 0] ds ∧ Binds K fd_open_at ["record", "t", "i"] ds
  f_prints_of : Addr
  fd_prints_of : FuncData
  F_prints_of : Fun K "prints_of" "prints_of" s_prints_of f_prints_of fd_prints_of
  g_prints_of : mg "prints_of" = some (.ref f_prints_of)
  b_prints_of : Binds K fd_prints_of ["record"] []
  f_traded : Addr
  fd_traded : FuncData
  F_traded : Fun K "traded" "traded" s_traded f_traded fd_traded
  g_traded : mg "traded" = some (.ref f_traded)
  b_traded : Binds K fd_traded ["record", "n"] []
  f_strange_fills : Addr
  fd_strange_fills : FuncData
  F_strange_fills : Fun K "strange_fills" "strange_fills" s_strange_fills f_strange_fills fd_strange_fills
  g_strange_fills : mg "strange_fills" = some (.ref f_strange_fills)
  b_strange_fills : Binds K fd_strange_fills ["fills", "own"] []
  f_seen_row : Addr
  fd_seen_row : FuncData
  F_seen_row : Fun K "seen_row" "seen_row" s_seen_row f_seen_row fd_seen_row
  g_seen_row : mg "seen_row" = some (.ref f_seen_row)
  b_seen_row : Binds K fd_seen_row ["row", "t", "own"] []
  f_seen : Addr
  fd_seen : FuncData
  F_seen : Fun K "seen" "seen" s_seen f_seen fd_seen
  g_seen : mg "seen" = some (.ref f_seen)
  b_seen : Binds K fd_seen ["record", "members"] []
  f_with_rule : Addr
  fd_with_rule : FuncData
  F_with_rule : Fun K "with_rule" "with_rule" s_with_rule f_with_rule fd_with_rule
  g_with_rule : mg "with_rule" = some (.ref f_with_rule)
  b_with_rule : Binds K fd_with_rule ["record", "rule"] []
  f_cut : Addr
  fd_cut : FuncData
  F_cut : Fun K "cut" "cut" s_cut f_cut fd_cut
  g_cut : mg "cut" = some (.ref f_cut)
  b_cut : Binds K fd_cut ["record", "t"] []
  f_require : Addr
  fd_require : FuncData
  F_require : Fun K "require" "require" s_require f_require fd_require
  g_require : mg "require" = some (.ref f_require)
  b_require : Binds K fd_require ["condition", "word", "at"] []
  f_has_shape : Addr
  fd_has_shape : FuncData
  F_has_shape : Fun K "has_shape" "has_shape" s_has_shape f_has_shape fd_has_shape
  g_has_shape : mg "has_shape" = some (.ref f_has_shape)
  b_has_shape : Binds K fd_has_shape ["thing"] []
  f_is_within : Addr
  fd_is_within : FuncData
  F_is_within : Fun K "is_within" "is_within" s_is_within f_is_within fd_is_within
  g_is_within : mg "is_within" = some (.ref f_is_within)
  b_is_within : Binds K fd_is_within ["side", "limit", "price"] []
  f_check_closed : Addr
  fd_check_closed : FuncData
  F_check_closed : Fun K "check_closed" "check_closed" s_check_closed f_check_closed fd_check_closed
  g_check_closed : mg "check_closed" = some (.ref f_check_closed)
  b_check_closed : Binds K fd_check_closed ["rows", "t"] []
  f_check_resting : Addr
  fd_check_resting : FuncData
  F_check_resting : Fun K "check_resting" "check_resting" s_check_resting f_check_resting fd_check_resting
  g_check_resting : mg "check_resting" = some (.ref f_check_resting)
  b_check_resting : Binds K fd_check_resting ["rows", "t", "i"] []
  f_check_own : Addr
  fd_check_own : FuncData
  F_check_own : Fun K "check_own" "check_own" s_check_own f_check_own fd_check_own
  g_check_own : mg "check_own" = some (.ref f_check_own)
  b_check_own : Binds K fd_check_own ["rows", "t", "i"] []
  f_check_print : Addr
  fd_check_print : FuncData
  F_check_print : Fun K "check_print" "check_print" s_check_print f_check_print fd_check_print
  g_check_print : mg "check_print" = some (.ref f_check_print)
  b_check_print : Binds K fd_check_print ["rows", "t", "i"] []
  f_check_call : Addr
  fd_check_call : FuncData
  F_check_call : Fun K "check_call" "check_call" s_check_call f_check_call fd_check_call
  g_check_call : mg "check_call" = some (.ref f_check_call)
  b_check_call : Binds K fd_check_call ["rows", "t"] []
  f_check_row : Addr
  fd_check_row : FuncData
  F_check_row : Fun K "check_row" "check_row" s_check_row f_check_row fd_check_row
  g_check_row : mg "check_row" = some (.ref f_check_row)
  b_check_row : Binds K fd_check_row ["rows", "t"] []
  f_lets_record : Addr
  fd_lets_record : FuncData
  F_lets_record : Fun K "lets_record" "lets_record" s_lets_record f_lets_record fd_lets_record
  g_lets_record : mg "lets_record" = some (.ref f_lets_record)
  b_lets_record : Binds K fd_lets_record ["thing"] []
  f__law_reader : Addr
  fd__law_reader : FuncData
  F__law_reader : Fun K "_law_reader" "_law_reader" s__law_reader f__law_reader fd__law_reader
  g__law_reader : mg "_law_reader" = some (.ref f__law_reader)
  b__law_reader : Binds K fd__law_reader ["_law_script"] []
  f__law_draw : Addr
  fd__law_draw : FuncData
  F__law_draw : Fun K "_law_draw" "_law_draw" s__law_draw f__law_draw fd__law_draw
  g__law_draw : mg "_law_draw" = some (.ref f__law_draw)
  b__law_draw : Binds K fd__law_draw ["_law_reader_here", "_law_many"] []
  f__law_fills : Addr
  fd__law_fills : FuncData
  F__law_fills : Fun K "_law_fills" "_law_fills" s__law_fills f__law_fills fd__law_fills
  g__law_fills : mg "_law_fills" = some (.ref f__law_fills)
  b__law_fills : Binds K fd__law_fills ["_law_row"] []
  f__law_trades : Addr
  fd__law_trades : FuncData
  F__law_trades : Fun K "_law_trades" "_law_trades" s__law_trades f__law_trades fd__law_trades
  g__law_trades : mg "_law_trades" = some (.ref f__law_trades)
  b__law_trades : Binds K fd__law_trades ["_law_rows", "_law_t", "_law_i"] []
  f__law_rest : Addr
  fd__law_rest : FuncData
  F__law_rest : Fun K "_law_rest" "_law_rest" s__law_rest f__law_rest fd__law_rest
  g__law_rest : mg "_law_rest" = some (.ref f__law_rest)
  b__law_rest : Binds K fd__law_rest ["_law_rows", "_law_n", "_law_t", "_law_i"] []
  f__law_orders : Addr
  fd__law_orders : FuncData
  F__law_orders : Fun K "_law_orders" "_law_orders" s__law_orders f__law_orders fd__law_orders
  g__law_orders : mg "_law_orders" = some (.ref f__law_orders)
  b__law_orders : Binds K fd__law_orders ["_law_rows"] []
  f__law_open : Addr
  fd__law_open : FuncData
  F__law_open : Fun K "_law_open" "_law_open" s__law_open f__law_open fd__law_open
  g__law_open : mg "_law_open" = some (.ref f__law_open)
  b__law_open : Binds K fd__law_open ["_law_rows", "_law_t", "_law_i"] []
  f__law_is_shut : Addr
  fd__law_is_shut : FuncData
  F__law_is_shut : Fun K "_law_is_shut" "_law_is_shut" s__law_is_shut f__law_is_shut fd__law_is_shut
  g__law_is_shut : mg "_law_is_shut" = some (.ref f__law_is_shut)
  b__law_is_shut : Binds K fd__law_is_shut ["_law_rows", "_law_t"] []
  f__law_new_fills : Addr
  fd__law_new_fills : FuncData
  F__law_new_fills : Fun K "_law_new_fills" "_law_new_fills" s__law_new_fills f__law_new_fills fd__law_new_fills
  g__law_new_fills : mg "_law_new_fills" = some (.ref f__law_new_fills)
  b__law_new_fills : Binds K fd__law_new_fills ["_law_reader_here", "_law_rows", "_law_most", "_law_left", "_law_side", "_law_limit"] []
  f__law_new_row : Addr
  fd__law_new_row : FuncData
  F__law_new_row : Fun K "_law_new_row" "_law_new_row" s__law_new_row f__law_new_row fd__law_new_row
  g__law_new_row : mg "_law_new_row" = some (.ref f__law_new_row)
  b__law_new_row : Binds K fd__law_new_row ["_law_reader_here", "_law_rows"] []
  f__law_random_rows : Addr
  fd__law_random_rows : FuncData
  F__law_random_rows : Fun K "_law_random_rows" "_law_random_rows" s__law_random_rows f__law_random_rows fd__law_random_rows
  g__law_random_rows : mg "_law_random_rows" = some (.ref f__law_random_rows)
  b__law_random_rows : Binds K fd__law_random_rows ["_law_reader_here", "_law_most"] []
  f__law_random_record : Addr
  fd__law_random_record : FuncData
  F__law_random_record : Fun K "_law_random_record" "_law_random_record" s__law_random_record f__law_random_record fd__law_random_record
  g__law_random_record : mg "_law_random_record" = some (.ref f__law_random_record)
  b__law_random_record : Binds K fd__law_random_record ["_law_reader_here", "_law_most"] []
  f__law_fixed_records : Addr
  fd__law_fixed_records : FuncData
  F__law_fixed_records : Fun K "_law_fixed_records" "_law_fixed_records" s__law_fixed_records f__law_fixed_records fd__law_fixed_records
  g__law_fixed_records : mg "_law_fixed_records" = some (.ref f__law_fixed_records)
  b__law_fixed_records : Binds K fd__law_fixed_records [] []
  f__law_groups : Addr
  fd__law_groups : FuncData
  F__law_groups : Fun K "_law_groups" "_law_groups" s__law_groups f__law_groups fd__law_groups
  g__law_groups : mg "_law_groups" = some (.ref f__law_groups)
  b__law_groups : Binds K fd__law_groups ["_law_some"] []
  f__law_check_view : Addr
  fd__law_check_view : FuncData
  F__law_check_view : Fun K "_law_check_view" "_law_check_view" s__law_check_view f__law_check_view fd__law_check_view
  g__law_check_view : mg "_law_check_view" = some (.ref f__law_check_view)
  b__law_check_view : Binds K fd__law_check_view ["_law_good", "_law_some", "_law_way"] []
  f__law_check_beginnings : Addr
  fd__law_check_beginnings : FuncData
  F__law_check_beginnings : Fun K "_law_check_beginnings" "_law_check_beginnings" s__law_check_beginnings f__law_check_beginnings fd__law_check_beginnings
  g__law_check_beginnings : mg "_law_check_beginnings" = some (.ref f__law_check_beginnings)
  b__law_check_beginnings : Binds K fd__law_check_beginnings ["_law_good", "_law_some", "_law_way"] []
  f_law : Addr
  fd_law : FuncData
  F_law : Fun K "law" "law" s_law f_law fd_law
  g_law : mg "law" = some (.ref f_law)
  b_law : Binds K fd_law ["_law_script"] []
  t_LETTERS : Tok
  g_LETTERS : mg "LETTERS" = some (.str "abcdefghijklmnopqrstuvwxyz" t_LETTERS)
  t_LONGEST_NAME : Tok
  g_LONGEST_NAME : mg "LONGEST_NAME" = some (.int 8 t_LONGEST_NAME)
  g_SIDES : GTup K mg "SIDES" [.str "buy", .str "sell"]
  g_RULES : GTup K mg "RULES" [.str "time", .str "late", .str "price"]
  t_BUY : Tok
  g_BUY : mg "BUY" = some (.str "buy" t_BUY)
  n_all : mg "all" = none
  n_bool : mg "bool" = none
  n_enumerate : mg "enumerate" = none
  n_int : mg "int" = none
  n_isinstance : mg "isinstance" = none
  n_len : mg "len" = none
  n_list : mg "list" = none
  n_min : mg "min" = none
  n_range : mg "range" = none
  n_set : mg "set" = none
  n_sorted : mg "sorted" = none
  n_str : mg "str" = none
  n_sum : mg "sum" = none
  n_tuple : mg "tuple" = none
  n_zip : mg "zip" = none
  w_law : ∀ (s : Shared) (v : Value), BindsTo s fd_law ⟨[v], []⟩ [("_law_script", v)]
section
variable {P : Program} {w : World} {K : PySem.W.Frag} {mg : Str → Option Value} {base : Heap}
theorem ok_is_integer (T : Txt K mg) : FG P w K mg base 1 T.f_is_integer T.fd_is_integer ["thing"] F_is_integer := by
  exact (fg_of T.F_is_integer sc_is_integer fun cdv A outer s H hr hgd => (dss_one (ds_ret (de_and (de_isi (T := "int") (de_var 0) (by rfl) T.n_isinstance (by rfl) T.n_int (by decide +kernel)) (de_one (de_not (de_isi (T := "bool") (de_var 0) (by rfl) T.n_isinstance (by rfl) T.n_bool (by decide +kernel)))))))).settled

theorem ok_is_number (T : Txt K mg) : FG P w K mg base 2 T.f_is_number T.fd_is_number ["thing"] F_is_number := by
  have G_is_integer := (ok_is_integer (P := P) (w := w) (base := base) T).mono (by decide : 1 ≤ 1)
  exact (fg_of T.F_is_number sc_is_number fun cdv A outer s H hr hgd => (dss_one (ds_ret (de_and (de_call G_is_integer hr hgd (by rfl) T.g_is_integer T.F_is_integer.kp T.b_is_integer (da_cons (de_var 0) da_nil)) (de_one (de_ge (de_var 0) de_int)))))).settled

theorem ok_is_size (T : Txt K mg) : FG P w K mg base 2 T.f_is_size T.fd_is_size ["thing"] F_is_size := by
  have G_is_integer := (ok_is_integer (P := P) (w := w) (base := base) T).mono (by decide : 1 ≤ 1)
  exact (fg_of T.F_is_size sc_is_size fun cdv A outer s H hr hgd => (dss_one (ds_ret (de_and (de_call G_is_integer hr hgd (by rfl) T.g_is_integer T.F_is_integer.kp T.b_is_integer (da_cons (de_var 0) da_nil)) (de_one (de_ge (de_var 0) de_int)))))).settled

theorem ok_is_name (T : Txt K mg) : FG P w K mg base 1 T.f_is_name T.fd_is_name ["thing"] F_is_name := by
  exact (fg_of T.F_is_name sc_is_name fun cdv A outer s H hr hgd => (dss_cons (ds_if (PW.pt (dw_or (dt_not (dt_val (de_isi (T := "str") (de_var 0) (by rfl) T.n_isinstance (by rfl) T.n_str (by decide +kernel)))) (dw_or1 (dt_not (dt_chain op_le sv_le op_le sv_le de_int (de_len (by rfl) T.n_len (da_cons (de_var 0) da_nil)) (de_glob (v := V.int 8) (by rfl) T.g_LONGEST_NAME ⟨_, rfl⟩ (fun _ _ _ _ => .int _))))))) (dss_one (ds_ret de_bl)) dss_nil)
      (dss_one (ds_ret (de_all rfl (by rfl) T.n_all (da_cons (de_lc rfl sc_is_name.nd (di_seq (de_var 0)) (blkOk_by (own := [("char", 1)]) (N := N_is_name) (sc := defScope s_is_name) (by decide +kernel)) (fun _ _ _ _ _ => (dg_nm 1 sc_is_name.nd rfl (.inl rfl))) (fun _ _ _ _ _ => dts_nil) (fun _ _ _ _ _ => (de_in (de_var 1) (de_glob (v := V.str "abcdefghijklmnopqrstuvwxyz") (by rfl) T.g_LETTERS ⟨_, rfl⟩ (fun _ _ _ _ => .str _))))) da_nil)))))).settled

theorem ok_is_side (T : Txt K mg) : FG P w K mg base 1 T.f_is_side T.fd_is_side ["thing"] F_is_side := by
  exact (fg_of T.F_is_side sc_is_side fun cdv A outer s H hr hgd => (dss_one (ds_ret (de_and (de_isi (T := "str") (de_var 0) (by rfl) T.n_isinstance (by rfl) T.n_str (by decide +kernel)) (de_one (de_in (de_var 0) (T.g_SIDES.de (by rfl)))))))).settled

theorem ok_is_rule (T : Txt K mg) : FG P w K mg base 1 T.f_is_rule T.fd_is_rule ["thing"] F_is_rule := by
  exact (fg_of T.F_is_rule sc_is_rule fun cdv A outer s H hr hgd => (dss_one (ds_ret (de_and (de_isi (T := "str") (de_var 0) (by rfl) T.n_isinstance (by rfl) T.n_str (by decide +kernel)) (de_one (de_in (de_var 0) (T.g_RULES.de (by rfl)))))))).settled

theorem ok_is_fill (T : Txt K mg) : FG P w K mg base 3 T.f_is_fill T.fd_is_fill ["thing"] F_is_fill := by
  have G_is_number := (ok_is_number (P := P) (w := w) (base := base) T).mono (by decide : 2 ≤ 2)
  have G_is_size := (ok_is_size (P := P) (w := w) (base := base) T).mono (by decide : 2 ≤ 2)
  exact (fg_of T.F_is_fill sc_is_fill fun cdv A outer s H hr hgd => (dss_cons (ds_if (PW.pt (dw_or (dt_not (dt_val (de_isi (T := "tuple") (de_var 0) (by rfl) T.n_isinstance (by rfl) T.n_tuple (by decide +kernel)))) (dw_or (dt_ne hr (de_len (by rfl) T.n_len (da_cons (de_var 0) da_nil)) de_int) (dw_or (dt_not (dt_val (de_call G_is_size hr hgd (by rfl) T.g_is_size T.F_is_size.kp T.b_is_size (da_cons (de_ix (de_var 0) de_int) da_nil)))) (dw_or1 (dt_not (dt_val (de_call G_is_size hr hgd (by rfl) T.g_is_size T.F_is_size.kp T.b_is_size (da_cons (de_ix (de_var 0) de_int) da_nil))))))))) (dss_one (ds_ret de_bl)) dss_nil)
      (dss_one (ds_ret (de_or (de_isN (de_ix (de_var 0) de_int) de_non) (de_one (de_call G_is_number hr hgd (by rfl) T.g_is_number T.F_is_number.kp T.b_is_number (da_cons (de_ix (de_var 0) de_int) da_nil)))))))).settled

theorem ok_are_fills (T : Txt K mg) : FG P w K mg base 4 T.f_are_fills T.fd_are_fills ["thing"] F_are_fills := by
  have G_is_fill := (ok_is_fill (P := P) (w := w) (base := base) T).mono (by decide : 3 ≤ 3)
  exact (fg_of T.F_are_fills sc_are_fills fun cdv A outer s H hr hgd => (dss_one (ds_ret (de_and (de_isi (T := "tuple") (de_var 0) (by rfl) T.n_isinstance (by rfl) T.n_tuple (by decide +kernel)) (de_one (de_all rfl (by rfl) T.n_all (da_cons (de_lc rfl sc_are_fills.nd (di_seq (de_var 0)) (blkOk_by (own := [("one", 1)]) (N := N_are_fills) (sc := defScope s_are_fills) (by decide +kernel)) (fun _ _ _ _ _ => (dg_nm 1 sc_are_fills.nd rfl (.inl rfl))) (fun _ _ _ _ _ => dts_nil) (fun _ _ _ _ _ => (de_call G_is_fill hr hgd (by rfl) T.g_is_fill T.F_is_fill.kp T.b_is_fill (da_cons (de_var 1) da_nil)))) da_nil))))))).settled

theorem ok_is_pair (T : Txt K mg) : FG P w K mg base 3 T.f_is_pair T.fd_is_pair ["thing"] F_is_pair := by
  have G_is_number := (ok_is_number (P := P) (w := w) (base := base) T).mono (by decide : 2 ≤ 2)
  have G_is_size := (ok_is_size (P := P) (w := w) (base := base) T).mono (by decide : 2 ≤ 2)
  exact (fg_of T.F_is_pair sc_is_pair fun cdv A outer s H hr hgd => (dss_one (ds_ret (de_and (de_isi (T := "tuple") (de_var 0) (by rfl) T.n_isinstance (by rfl) T.n_tuple (by decide +kernel)) (de_and (de_eq hr (de_len (by rfl) T.n_len (da_cons (de_var 0) da_nil)) de_int) (de_and (de_call G_is_number hr hgd (by rfl) T.g_is_number T.F_is_number.kp T.b_is_number (da_cons (de_ix (de_var 0) de_int) da_nil)) (de_one (de_call G_is_size hr hgd (by rfl) T.g_is_size T.F_is_size.kp T.b_is_size (da_cons (de_ix (de_var 0) de_int) da_nil))))))))).settled

theorem ok_are_pairs (T : Txt K mg) : FG P w K mg base 4 T.f_are_pairs T.fd_are_pairs ["thing"] F_are_pairs := by
  have G_is_pair := (ok_is_pair (P := P) (w := w) (base := base) T).mono (by decide : 3 ≤ 3)
  exact (fg_of T.F_are_pairs sc_are_pairs fun cdv A outer s H hr hgd => (dss_cons (ds_if (PW.pt (dw_or (dt_not (dt_val (de_isi (T := "tuple") (de_var 0) (by rfl) T.n_isinstance (by rfl) T.n_tuple (by decide +kernel)))) (dw_or1 (dt_not (dt_val (de_all rfl (by rfl) T.n_all (da_cons (de_lc rfl sc_are_pairs.nd (di_seq (de_var 0)) (blkOk_by (own := [("one", 1)]) (N := N_are_pairs) (sc := defScope s_are_pairs) (by decide +kernel)) (fun _ _ _ _ _ => (dg_nm 1 sc_are_pairs.nd rfl (.inl rfl))) (fun _ _ _ _ _ => dts_nil) (fun _ _ _ _ _ => (de_call G_is_pair hr hgd (by rfl) T.g_is_pair T.F_is_pair.kp T.b_is_pair (da_cons (de_var 1) da_nil)))) da_nil))))))) (dss_one (ds_ret de_bl)) dss_nil)
      (dss_one (ds_ret (de_all rfl (by rfl) T.n_all (da_cons (de_lc rfl sc_are_pairs.nd (di_zip (by rfl) T.n_zip (da_cons (de_var 0) (da_cons (de_slice (de_var 0) (do_some de_int) do_none) da_nil))) (blkOk_by (own := [("one", 1), ("other", 2)]) (N := N_are_pairs) (sc := defScope s_are_pairs) (by decide +kernel)) (fun _ _ _ _ _ => (dg_tp rfl (dgs_cons (dg_nm 1 sc_are_pairs.nd rfl (.inl rfl)) (dgs_cons (dg_nm 2 sc_are_pairs.nd rfl (.inl rfl)) dgs_nil)))) (fun _ _ _ _ _ => dts_nil) (fun _ _ _ _ _ => (de_lt (de_ix (de_var 1) de_int) (de_ix (de_var 2) de_int)))) da_nil)))))).settled

theorem ok_is_order_row (T : Txt K mg) : FG P w K mg base 5 T.f_is_order_row T.fd_is_order_row ["thing"] F_is_order_row := by
  have G_are_fills := (ok_are_fills (P := P) (w := w) (base := base) T).mono (by decide : 4 ≤ 4)
  have G_is_name := (ok_is_name (P := P) (w := w) (base := base) T).mono (by decide : 1 ≤ 4)
  have G_is_side := (ok_is_side (P := P) (w := w) (base := base) T).mono (by decide : 1 ≤ 4)
  have G_is_size := (ok_is_size (P := P) (w := w) (base := base) T).mono (by decide : 2 ≤ 4)
  exact (fg_of T.F_is_order_row sc_is_order_row fun cdv A outer s H hr hgd => (dss_cons (ds_if (PW.pt (dw_or (dt_ne hr (de_len (by rfl) T.n_len (da_cons (de_var 0) da_nil)) de_int) (dw_or (dt_not (dt_val (de_call G_is_name hr hgd (by rfl) T.g_is_name T.F_is_name.kp T.b_is_name (da_cons (de_ix (de_var 0) de_int) da_nil)))) (dw_or1 (dt_not (dt_val (de_call G_is_side hr hgd (by rfl) T.g_is_side T.F_is_side.kp T.b_is_side (da_cons (de_ix (de_var 0) de_int) da_nil)))))))) (dss_one (ds_ret de_bl)) dss_nil)
      (dss_one (ds_ret (de_and (de_call G_is_size hr hgd (by rfl) T.g_is_size T.F_is_size.kp T.b_is_size (da_cons (de_ix (de_var 0) de_int) da_nil)) (de_and (de_call G_is_size hr hgd (by rfl) T.g_is_size T.F_is_size.kp T.b_is_size (da_cons (de_ix (de_var 0) de_int) da_nil)) (de_one (de_call G_are_fills hr hgd (by rfl) T.g_are_fills T.F_are_fills.kp T.b_are_fills (da_cons (de_ix (de_var 0) de_int) da_nil))))))))).settled

theorem ok_is_call_row (T : Txt K mg) : FG P w K mg base 5 T.f_is_call_row T.fd_is_call_row ["thing"] F_is_call_row := by
  have G_are_pairs := (ok_are_pairs (P := P) (w := w) (base := base) T).mono (by decide : 4 ≤ 4)
  have G_is_size := (ok_is_size (P := P) (w := w) (base := base) T).mono (by decide : 2 ≤ 4)
  exact (fg_of T.F_is_call_row sc_is_call_row fun cdv A outer s H hr hgd => (dss_cons (ds_if (PW.pt (dw_or (dt_ne hr (de_len (by rfl) T.n_len (da_cons (de_var 0) da_nil)) de_int) (dw_or1 (dt_not (dt_val (de_call G_are_pairs hr hgd (by rfl) T.g_are_pairs T.F_are_pairs.kp T.b_are_pairs (da_cons (de_ix (de_var 0) de_int) da_nil))))))) (dss_one (ds_ret de_bl)) dss_nil)
      (dss_one (ds_ret (de_or (de_call G_is_size hr hgd (by rfl) T.g_is_size T.F_is_size.kp T.b_is_size (da_cons (de_ix (de_var 0) de_int) da_nil)) (de_one (de_and (de_isN (de_ix (de_var 0) de_int) de_non) (de_one (de_eq hr (de_ix (de_var 0) de_int) (de_tup da_nil)))))))))).settled

theorem ok_is_row (T : Txt K mg) : FG P w K mg base 6 T.f_is_row T.fd_is_row ["thing"] F_is_row := by
  have G_are_fills := (ok_are_fills (P := P) (w := w) (base := base) T).mono (by decide : 4 ≤ 5)
  have G_is_call_row := (ok_is_call_row (P := P) (w := w) (base := base) T).mono (by decide : 5 ≤ 5)
  have G_is_number := (ok_is_number (P := P) (w := w) (base := base) T).mono (by decide : 2 ≤ 5)
  have G_is_order_row := (ok_is_order_row (P := P) (w := w) (base := base) T).mono (by decide : 5 ≤ 5)
  exact (fg_of T.F_is_row sc_is_row fun cdv A outer s H hr hgd => (dss_cons (ds_if (PW.pt (dw_or (dt_not (dt_val (de_isi (T := "tuple") (de_var 0) (by rfl) T.n_isinstance (by rfl) T.n_tuple (by decide +kernel)))) (dw_or (dt_eq hr (de_len (by rfl) T.n_len (da_cons (de_var 0) da_nil)) de_int) (dw_or1 (dt_not (dt_val (de_isi (T := "str") (de_ix (de_var 0) de_int) (by rfl) T.n_isinstance (by rfl) T.n_str (by decide +kernel)))))))) (dss_one (ds_ret de_bl)) dss_nil)
      (dss_one (ds_match (de_ix (de_var 0) de_int) (dm_case (dss_one (ds_ret (de_call G_is_order_row hr hgd (by rfl) T.g_is_order_row T.F_is_order_row.kp T.b_is_order_row (da_cons (de_var 0) da_nil)))) (dm_case (dss_one (ds_ret (de_and (de_eq hr (de_len (by rfl) T.n_len (da_cons (de_var 0) da_nil)) de_int) (de_one (de_call G_is_number hr hgd (by rfl) T.g_is_number T.F_is_number.kp T.b_is_number (da_cons (de_ix (de_var 0) de_int) da_nil)))))) (dm_case (dss_one (ds_ret (de_and (de_eq hr (de_len (by rfl) T.n_len (da_cons (de_var 0) da_nil)) de_int) (de_one (de_call G_are_fills hr hgd (by rfl) T.g_are_fills T.F_are_fills.kp T.b_are_fills (da_cons (de_ix (de_var 0) de_int) da_nil)))))) (dm_case (dss_one (ds_ret (de_eq hr (de_len (by rfl) T.n_len (da_cons (de_var 0) da_nil)) de_int))) (dm_case (dss_one (ds_ret (de_call G_is_call_row hr hgd (by rfl) T.g_is_call_row T.F_is_call_row.kp T.b_is_call_row (da_cons (de_var 0) da_nil)))) (dm_else (dss_one (ds_ret de_bl)))))))))))).settled

theorem ok_fills_in (T : Txt K mg) : FG P w K mg base 1 T.f_fills_in T.fd_fills_in ["row"] F_fills_in := by
  exact (fg_of T.F_fills_in sc_fills_in fun cdv A outer s H hr hgd => (dss_cons (ds_if (dt_eq hr (de_ix (de_var 0) de_int) de_str) (dss_one (ds_ret (de_ix (de_var 0) de_int))) dss_nil)
      (dss_one (ds_ret (de_ifExp (dt_eq hr (de_ix (de_var 0) de_int) de_str) (de_ix (de_var 0) de_int) (de_tup da_nil)))))).settled

theorem ok_lots_in (T : Txt K mg) : FG P w K mg base 1 T.f_lots_in T.fd_lots_in ["rows", "n", "t", "fills"] F_lots_in := by
  exact (fg_of T.F_lots_in sc_lots_in fun cdv A outer s H hr hgd => (dss_cons (ds_if (dt_eq hr (de_ix (de_ix (de_var 0) (de_var 2)) de_int) de_str) (dss_one (ds_ret (de_sum rfl (by rfl) T.n_sum (da_cons (de_lc rfl sc_lots_in.nd (di_seq (de_ix (de_ix (de_var 0) (de_var 2)) de_int)) (blkOk_by (own := [("own", 4), ("size", 5)]) (N := N_lots_in) (sc := defScope s_lots_in) (by decide +kernel)) (fun _ _ _ _ _ => (dg_tp rfl (dgs_cons (dg_nm 4 sc_lots_in.nd rfl (.inl rfl)) (dgs_cons (dg_nm 5 sc_lots_in.nd rfl (.inl rfl)) dgs_nil)))) (fun _ _ _ _ _ => (dts_one (dt_eq hr (de_var 4) (de_var 1)))) (fun _ _ _ _ _ => (de_var 5))) da_nil)))) dss_nil)
      (dss_one (ds_ret (de_sum rfl (by rfl) T.n_sum (da_cons (de_lc rfl sc_lots_in.nd (di_seq (de_var 3)) (blkOk_by (own := [("price", 6), ("size", 5), ("own", 4)]) (N := N_lots_in) (sc := defScope s_lots_in) (by decide +kernel)) (fun _ _ _ _ _ => (dg_tp rfl (dgs_cons (dg_nm 6 sc_lots_in.nd rfl (.inl rfl)) (dgs_cons (dg_nm 5 sc_lots_in.nd rfl (.inl rfl)) (dgs_cons (dg_nm 4 sc_lots_in.nd rfl (.inl rfl)) dgs_nil))))) (fun _ _ _ _ _ => (dts_one (PW.pt (dw_or (dt_eq hr (de_var 4) (de_var 1)) (dw_or1 (dt_eq hr (de_var 2) (de_var 1))))))) (fun _ _ _ _ _ => (de_var 5))) da_nil)))))).settled

theorem ok_lots_before (T : Txt K mg) : FG P w K mg base 2 T.f_lots_before T.fd_lots_before ["rows", "n", "t", "i"] F_lots_before := by
  have G_fills_in := (ok_fills_in (P := P) (w := w) (base := base) T).mono (by decide : 1 ≤ 1)
  have G_lots_in := (ok_lots_in (P := P) (w := w) (base := base) T).mono (by decide : 1 ≤ 1)
  exact (fg_of T.F_lots_before sc_lots_before fun cdv A outer s H hr hgd => (dss_cons (ds_set 4 (de_sum rfl (by rfl) T.n_sum (da_cons (de_lc rfl sc_lots_before.nd (di_rng1 (by rfl) T.n_range (da_cons (de_var 2) da_nil)) (blkOk_by (own := [("r", 5)]) (N := N_lots_before) (sc := defScope s_lots_before) (by decide +kernel)) (fun _ _ _ _ _ => (dg_nm 5 sc_lots_before.nd rfl (.inl rfl))) (fun _ _ _ _ _ => dts_nil) (fun _ _ _ _ _ => (de_call G_lots_in hr hgd (by rfl) T.g_lots_in T.F_lots_in.kp T.b_lots_in (da_cons (de_var 0) (da_cons (de_var 1) (da_cons (de_var 5) (da_cons (de_call G_fills_in hr hgd (by rfl) T.g_fills_in T.F_fills_in.kp T.b_fills_in (da_cons (de_ix (de_var 0) (de_var 5)) da_nil)) da_nil))))))) da_nil)) sc_lots_before.nd rfl (.inl rfl))
      (dss_cons (ds_if (PW.pt (dw_and (dt_lt (de_var 2) (de_len (by rfl) T.n_len (da_cons (de_var 0) da_nil))) (dw_and1 (dt_ne hr (de_ix (de_ix (de_var 0) (de_var 2)) de_int) de_str)))) (dss_one (ds_set 4 (de_add (de_var 4) (de_call G_lots_in hr hgd (by rfl) T.g_lots_in T.F_lots_in.kp T.b_lots_in (da_cons (de_var 0) (da_cons (de_var 1) (da_cons (de_var 2) (da_cons (de_slice (de_call G_fills_in hr hgd (by rfl) T.g_fills_in T.F_fills_in.kp T.b_fills_in (da_cons (de_ix (de_var 0) (de_var 2)) da_nil)) do_none (do_some (de_var 3))) da_nil)))))) sc_lots_before.nd rfl (.inl rfl))) dss_nil)
      (dss_one (ds_ret (de_var 4)))))).settled

theorem ok_rest_of (T : Txt K mg) : FG P w K mg base 3 T.f_rest_of T.fd_rest_of ["rows", "n", "t", "i"] F_rest_of := by
  have G_lots_before := (ok_lots_before (P := P) (w := w) (base := base) T).mono (by decide : 2 ≤ 2)
  exact (fg_of T.F_rest_of sc_rest_of fun cdv A outer s H hr hgd => (dss_one (ds_ret (de_sub (de_ix (de_ix (de_var 0) (de_var 1)) de_int) (de_call G_lots_before hr hgd (by rfl) T.g_lots_before T.F_lots_before.kp T.b_lots_before (da_cons (de_var 0) (da_cons (de_var 1) (da_cons (de_var 2) (da_cons (de_var 3) da_nil))))))))).settled

theorem ok_is_open (T : Txt K mg) : FG P w K mg base 4 T.f_is_open T.fd_is_open ["rows", "n", "t", "i"] F_is_open := by
  have G_rest_of := (ok_rest_of (P := P) (w := w) (base := base) T).mono (by decide : 3 ≤ 3)
  exact (fg_of T.F_is_open sc_is_open fun cdv A outer s H hr hgd => (dss_cons (ds_if (PW.pt (dw_or (dt_ge (de_var 1) (de_var 2)) (dw_or (dt_ne hr (de_ix (de_ix (de_var 0) (de_var 1)) de_int) de_str) (dw_or1 (dt_inA hr (de_tup (da_cons de_str (da_cons (de_var 1) da_nil))) (de_slice (de_var 0) do_none (do_some (de_var 2)))))))) (dss_one (ds_ret de_bl)) dss_nil)
      (dss_one (ds_ret (de_gt (de_call G_rest_of hr hgd (by rfl) T.g_rest_of T.F_rest_of.kp T.b_rest_of (da_cons (de_var 0) (da_cons (de_var 1) (da_cons (de_var 2) (da_cons (de_var 3) da_nil))))) de_int))))).settled

theorem ok_is_shut (T : Txt K mg) : FG P w K mg base 1 T.f_is_shut T.fd_is_shut ["rows", "t"] F_is_shut := by
  exact (fg_of T.F_is_shut sc_is_shut fun cdv A outer s H hr hgd => (dss_cons (ds_if (PW.pt (dw_or (dt_eq hr (de_var 1) de_int) (dw_or1 (dt_ne hr (de_ix (de_ix (de_var 0) de_int) de_int) de_str)))) (dss_one (ds_ret de_bl)) dss_nil)
      (dss_one (ds_ret (de_all rfl (by rfl) T.n_all (da_cons (de_lc rfl sc_is_shut.nd (di_seq (de_slice (de_var 0) do_none (do_some (de_var 1)))) (blkOk_by (own := [("row", 2)]) (N := N_is_shut) (sc := defScope s_is_shut) (by decide +kernel)) (fun _ _ _ _ _ => (dg_nm 2 sc_is_shut.nd rfl (.inl rfl))) (fun _ _ _ _ _ => dts_nil) (fun _ _ _ _ _ => (de_ne hr (de_ix (de_var 2) de_int) de_str))) da_nil)))))).settled

theorem ok_members_of (T : Txt K mg) : FG P w K mg base 1 T.f_members_of T.fd_members_of ["record"] F_members_of := by
  exact (fg_of T.F_members_of sc_members_of fun cdv A outer s H hr hgd => (dss_one (ds_ret (de_tupleOf (by rfl) T.n_tuple (da_cons (de_sortS rfl (by rfl) T.n_sorted sc_members_of.nd (di_seq (de_ix (de_var 0) de_int)) (blkOk_by (own := [("row", 1)]) (N := N_members_of) (sc := defScope s_members_of) (by decide +kernel)) (fun _ _ _ _ _ => (dg_nm 1 sc_members_of.nd rfl (.inl rfl))) (fun _ _ _ _ _ => (dts_one (dt_eq hr (de_ix (de_var 1) de_int) de_str))) (fun _ _ _ _ _ => (de_ix (de_var 1) de_int))) da_nil))))).settled

theorem ok_orders_of (T : Txt K mg) : FG P w K mg base 1 T.f_orders_of T.fd_orders_of ["record"] F_orders_of := by
  exact (fg_of T.F_orders_of sc_orders_of fun cdv A outer s H hr hgd => (dss_one (ds_ret (de_tupleOf (by rfl) T.n_tuple (da_cons (de_lc rfl sc_orders_of.nd (di_enum (by rfl) T.n_enumerate (da_cons (de_ix (de_var 0) de_int) da_nil)) (blkOk_by (own := [("n", 1), ("row", 2)]) (N := N_orders_of) (sc := defScope s_orders_of) (by decide +kernel)) (fun _ _ _ _ _ => (dg_tp rfl (dgs_cons (dg_nm 1 sc_orders_of.nd rfl (.inl rfl)) (dgs_cons (dg_nm 2 sc_orders_of.nd rfl (.inl rfl)) dgs_nil)))) (fun _ _ _ _ _ => (dts_one (dt_eq hr (de_ix (de_var 2) de_int) de_str))) (fun _ _ _ _ _ => (de_var 1))) da_nil))))).settled

theorem ok_require_order (T : Txt K mg) : FG P w K mg base 3 T.f_require_order T.fd_require_order ["record", "n"] F_require_order := by
  have G_is_number := (ok_is_number (P := P) (w := w) (base := base) T).mono (by decide : 2 ≤ 2)
  have G_orders_of := (ok_orders_of (P := P) (w := w) (base := base) T).mono (by decide : 1 ≤ 2)
  exact (fg_of T.F_require_order sc_require_order fun cdv A outer s H hr hgd => (dss_one (ds_if (PW.pt (dw_or (dt_not (dt_val (de_call G_is_number hr hgd (by rfl) T.g_is_number T.F_is_number.kp T.b_is_number (da_cons (de_var 1) da_nil)))) (dw_or1 (dt_notIn (de_var 1) (de_call G_orders_of hr hgd (by rfl) T.g_orders_of T.F_orders_of.kp T.b_orders_of (da_cons (de_var 0) da_nil)))))) (dss_one ds_none) dss_nil))).settled

theorem ok_is_place (T : Txt K mg) : FG P w K mg base 3 T.f_is_place T.fd_is_place ["record", "t", "i"] F_is_place := by
  have G_fills_in := (ok_fills_in (P := P) (w := w) (base := base) T).mono (by decide : 1 ≤ 2)
  have G_is_number := (ok_is_number (P := P) (w := w) (base := base) T).mono (by decide : 2 ≤ 2)
  exact (fg_of T.F_is_place sc_is_place fun cdv A outer s H hr hgd => (dss_cons (ds_set 3 (de_ix (de_var 0) de_int) sc_is_place.nd rfl (.inl rfl))
      (dss_cons (ds_if (PW.pt (dw_or (dt_not (dt_val (de_call G_is_number hr hgd (by rfl) T.g_is_number T.F_is_number.kp T.b_is_number (da_cons (de_var 1) da_nil)))) (dw_or (dt_not (dt_val (de_call G_is_number hr hgd (by rfl) T.g_is_number T.F_is_number.kp T.b_is_number (da_cons (de_var 2) da_nil)))) (dw_or1 (dt_gt (de_var 1) (de_len (by rfl) T.n_len (da_cons (de_var 3) da_nil))))))) (dss_one (ds_ret de_bl)) dss_nil)
      (dss_one (ds_ret (de_or (de_eq hr (de_var 2) de_int) (de_one (de_and (de_lt (de_var 1) (de_len (by rfl) T.n_len (da_cons (de_var 3) da_nil))) (de_one (de_lt (de_var 2) (de_len (by rfl) T.n_len (da_cons (de_call G_fills_in hr hgd (by rfl) T.g_fills_in T.F_fills_in.kp T.b_fills_in (da_cons (de_ix (de_var 3) (de_var 1)) da_nil)) da_nil)))))))))))).settled

theorem ok_require_place (T : Txt K mg) : FG P w K mg base 4 T.f_require_place T.fd_require_place ["record", "t", "i"] F_require_place := by
  have G_is_place := (ok_is_place (P := P) (w := w) (base := base) T).mono (by decide : 3 ≤ 3)
  exact (fg_of T.F_require_place sc_require_place fun cdv A outer s H hr hgd => (dss_one (ds_if (dt_not (dt_val (de_call G_is_place hr hgd (by rfl) T.g_is_place T.F_is_place.kp T.b_is_place (da_cons (de_var 0) (da_cons (de_var 1) (da_cons (de_var 2) da_nil)))))) (dss_one ds_none) dss_nil))).settled

theorem ok_order_at (T : Txt K mg) : FG P w K mg base 4 T.f_order_at T.fd_order_at ["record", "n"] F_order_at := by
  have G_require_order := (ok_require_order (P := P) (w := w) (base := base) T).mono (by decide : 3 ≤ 3)
  exact (fg_of T.F_order_at sc_order_at fun cdv A outer s H hr hgd => (dss_cons (ds_expr (de_call G_require_order hr hgd (by rfl) T.g_require_order T.F_require_order.kp T.b_require_order (da_cons (de_var 0) (da_cons (de_var 1) da_nil))))
      (dss_one (ds_ret (de_slice (de_ix (de_ix (de_var 0) de_int) (de_var 1)) (do_some de_int) (do_some de_int)))))).settled

theorem ok_rest_at (T : Txt K mg) : FG P w K mg base 5 T.f_rest_at T.fd_rest_at ["record", "n", "t", "i"] F_rest_at := by
  have G_require_order := (ok_require_order (P := P) (w := w) (base := base) T).mono (by decide : 3 ≤ 4)
  have G_require_place := (ok_require_place (P := P) (w := w) (base := base) T).mono (by decide : 4 ≤ 4)
  have G_rest_of := (ok_rest_of (P := P) (w := w) (base := base) T).mono (by decide : 3 ≤ 4)
  exact (fg_ofD T.F_rest_at sc_rest_at fun cdv A outer s H hr hgd => (dss_cons (ds_expr (de_call G_require_order hr hgd (by rfl) T.g_require_order T.F_require_order.kp T.b_require_order (da_cons (de_var 0) (da_cons (de_var 1) da_nil))))
      (dss_cons (ds_expr (de_call G_require_place hr hgd (by rfl) T.g_require_place T.F_require_place.kp T.b_require_place (da_cons (de_var 0) (da_cons (de_var 2) (da_cons (de_var 3) da_nil)))))
      (dss_one (ds_ret (de_call G_rest_of hr hgd (by rfl) T.g_rest_of T.F_rest_of.kp T.b_rest_of (da_cons (de_ix (de_var 0) de_int) (da_cons (de_var 1) (da_cons (de_var 2) (da_cons (de_var 3) da_nil)))))))))).settled

theorem ok_open_at (T : Txt K mg) : FG P w K mg base 5 T.f_open_at T.fd_open_at ["record", "t", "i"] F_open_at := by
  have G_is_open := (ok_is_open (P := P) (w := w) (base := base) T).mono (by decide : 4 ≤ 4)
  have G_orders_of := (ok_orders_of (P := P) (w := w) (base := base) T).mono (by decide : 1 ≤ 4)
  have G_require_place := (ok_require_place (P := P) (w := w) (base := base) T).mono (by decide : 4 ≤ 4)
  exact (fg_ofD T.F_open_at sc_open_at fun cdv A outer s H hr hgd => (dss_cons (ds_expr (de_call G_require_place hr hgd (by rfl) T.g_require_place T.F_require_place.kp T.b_require_place (da_cons (de_var 0) (da_cons (de_var 1) (da_cons (de_var 2) da_nil)))))
      (dss_one (ds_ret (de_tupleOf (by rfl) T.n_tuple (da_cons (de_lc rfl sc_open_at.nd (di_seq (de_call G_orders_of hr hgd (by rfl) T.g_orders_of T.F_orders_of.kp T.b_orders_of (da_cons (de_var 0) da_nil))) (blkOk_by (own := [("n", 3)]) (N := N_open_at) (sc := defScope s_open_at) (by decide +kernel)) (fun _ _ _ _ _ => (dg_nm 3 sc_open_at.nd rfl (.inl rfl))) (fun _ _ _ _ _ => (dts_one (dt_val (de_call G_is_open hr hgd (by rfl) T.g_is_open T.F_is_open.kp T.b_is_open (da_cons (de_ix (de_var 0) de_int) (da_cons (de_var 3) (da_cons (de_var 1) (da_cons (de_var 2) da_nil)))))))) (fun _ _ _ _ _ => (de_var 3))) da_nil)))))).settled

theorem ok_prints_of (T : Txt K mg) : FG P w K mg base 2 T.f_prints_of T.fd_prints_of ["record"] F_prints_of := by
  have G_fills_in := (ok_fills_in (P := P) (w := w) (base := base) T).mono (by decide : 1 ≤ 1)
  exact (fg_of T.F_prints_of sc_prints_of fun cdv A outer s H hr hgd => (dss_cons (ds_set 1 (de_new da_nil) sc_prints_of.nd rfl (.inl rfl))
      (dss_cons (ds_for PassesOwn.never rfl (di_enum (by rfl) T.n_enumerate (da_cons (de_ix (de_var 0) de_int) da_nil)) (dg_tp rfl (dgs_cons (dg_nm 2 sc_prints_of.nd rfl (.inr rfl)) (dgs_cons (dg_nm 3 sc_prints_of.nd rfl (.inl rfl)) dgs_nil))) (dss_one (ds_expr (de_extend (de_var 1) (da_cons (de_lc rfl sc_prints_of.nd (di_enum (by rfl) T.n_enumerate (da_cons (de_call G_fills_in hr hgd (by rfl) T.g_fills_in T.F_fills_in.kp T.b_fills_in (da_cons (de_var 3) da_nil)) da_nil)) (blkOk_by (own := [("i", 4), ("fill", 5)]) (N := N_prints_of) (sc := defScope s_prints_of) (by decide +kernel)) (fun _ _ _ _ _ => (dg_tp rfl (dgs_cons (dg_nm 4 sc_prints_of.nd rfl (.inl rfl)) (dgs_cons (dg_nm 5 sc_prints_of.nd rfl (.inl rfl)) dgs_nil)))) (fun _ _ _ _ _ => dts_nil) (fun _ _ _ _ _ => (de_tup (da_cons (de_var 2) (da_cons (de_var 4) (da_cons (de_ix (de_var 5) de_int) (da_cons (de_ix (de_var 5) de_int) da_nil))))))) da_nil)))))
      (dss_one (ds_ret (de_tupleOf (by rfl) T.n_tuple (da_cons (de_var 1) da_nil))))))).settled

theorem ok_traded (T : Txt K mg) : FG P w K mg base 4 T.f_traded T.fd_traded ["record", "n"] F_traded := by
  have G_require_order := (ok_require_order (P := P) (w := w) (base := base) T).mono (by decide : 3 ≤ 3)
  have G_rest_of := (ok_rest_of (P := P) (w := w) (base := base) T).mono (by decide : 3 ≤ 3)
  exact (fg_of T.F_traded sc_traded fun cdv A outer s H hr hgd => (dss_cons (ds_expr (de_call G_require_order hr hgd (by rfl) T.g_require_order T.F_require_order.kp T.b_require_order (da_cons (de_var 0) (da_cons (de_var 1) da_nil))))
      (dss_one (ds_ret (de_sub (de_ix (de_ix (de_ix (de_var 0) de_int) (de_var 1)) de_int) (de_call G_rest_of hr hgd (by rfl) T.g_rest_of T.F_rest_of.kp T.b_rest_of (da_cons (de_ix (de_var 0) de_int) (da_cons (de_var 1) (da_cons (de_len (by rfl) T.n_len (da_cons (de_ix (de_var 0) de_int) da_nil)) (da_cons de_int da_nil)))))))))).settled

theorem ok_strange_fills (T : Txt K mg) : FG P w K mg base 1 T.f_strange_fills T.fd_strange_fills ["fills", "own"] F_strange_fills := by
  exact (fg_of T.F_strange_fills sc_strange_fills fun cdv A outer s H hr hgd => (dss_one (ds_ret (de_tupleOf (by rfl) T.n_tuple (da_cons (de_lc rfl sc_strange_fills.nd (di_seq (de_var 0)) (blkOk_by (own := [("price", 2), ("size", 3), ("n", 4)]) (N := N_strange_fills) (sc := defScope s_strange_fills) (by decide +kernel)) (fun _ _ _ _ _ => (dg_tp rfl (dgs_cons (dg_nm 2 sc_strange_fills.nd rfl (.inl rfl)) (dgs_cons (dg_nm 3 sc_strange_fills.nd rfl (.inl rfl)) (dgs_cons (dg_nm 4 sc_strange_fills.nd rfl (.inl rfl)) dgs_nil))))) (fun _ _ _ _ _ => dts_nil) (fun _ _ _ _ _ => (de_tup (da_cons (de_var 2) (da_cons (de_var 3) (da_cons (de_ifExp (dt_in (de_var 4) (de_var 1)) (de_var 4) de_non) da_nil)))))) da_nil))))).settled

theorem ok_seen_row (T : Txt K mg) : FG P w K mg base 2 T.f_seen_row T.fd_seen_row ["row", "t", "own"] F_seen_row := by
  have G_strange_fills := (ok_strange_fills (P := P) (w := w) (base := base) T).mono (by decide : 1 ≤ 1)
  exact (fg_of T.F_seen_row sc_seen_row fun cdv A outer s H hr hgd => (dss_one (ds_match (de_ix (de_var 0) de_int) (dm_case (dss_cons (ds_set 3 (de_call G_strange_fills hr hgd (by rfl) T.g_strange_fills T.F_strange_fills.kp T.b_strange_fills (da_cons (de_ix (de_var 0) de_int) (da_cons (de_var 2) da_nil))) sc_seen_row.nd rfl (.inl rfl))
      (dss_one (ds_ret (de_ifExp (dt_in (de_var 1) (de_var 2)) (de_tup (da_star (de_slice (de_var 0) do_none (do_some de_int)) (da_cons (de_var 3) da_nil))) (de_tup (da_cons de_str (da_cons (de_var 3) da_nil))))))) (dm_case (dss_one (ds_ret (de_ifExp (dt_in (de_ix (de_var 0) de_int) (de_var 2)) (de_var 0) (de_tup (da_cons de_str (da_cons (de_tup da_nil) da_nil)))))) (dm_case (dss_one (ds_ret (de_tup (da_cons de_str (da_cons (de_call G_strange_fills hr hgd (by rfl) T.g_strange_fills T.F_strange_fills.kp T.b_strange_fills (da_cons (de_ix (de_var 0) de_int) (da_cons (de_var 2) da_nil))) da_nil))))) (dm_case (dss_one (ds_ret (de_tup (da_star (de_slice (de_var 0) do_none (do_some de_int)) (da_cons (de_tupleOf (by rfl) T.n_tuple (da_cons (de_lc rfl sc_seen_row.nd (di_seq (de_ix (de_var 0) de_int)) (blkOk_by (own := [("pair", 4)]) (N := N_seen_row) (sc := defScope s_seen_row) (by decide +kernel)) (fun _ _ _ _ _ => (dg_nm 4 sc_seen_row.nd rfl (.inl rfl))) (fun _ _ _ _ _ => (dts_one (dt_in (de_ix (de_var 4) de_int) (de_var 2)))) (fun _ _ _ _ _ => (de_var 4))) da_nil)) da_nil))))) (dm_else (dss_one (ds_ret (de_var 0))))))))))).settled

theorem ok_seen (T : Txt K mg) : FG P w K mg base 3 T.f_seen T.fd_seen ["record", "members"] F_seen := by
  have G_members_of := (ok_members_of (P := P) (w := w) (base := base) T).mono (by decide : 1 ≤ 2)
  have G_orders_of := (ok_orders_of (P := P) (w := w) (base := base) T).mono (by decide : 1 ≤ 2)
  have G_seen_row := (ok_seen_row (P := P) (w := w) (base := base) T).mono (by decide : 2 ≤ 2)
  exact (fg_of T.F_seen sc_seen fun cdv A outer s H hr hgd => (dss_cons (ds_set 2 (de_call G_members_of hr hgd (by rfl) T.g_members_of T.F_members_of.kp T.b_members_of (da_cons (de_var 0) da_nil)) sc_seen.nd rfl (.inl rfl))
      (dss_cons (ds_for PassesOwn.never rfl (di_seq (de_var 1)) (dg_nm 3 sc_seen.nd rfl (.inl rfl)) (dss_one (ds_if (PW.pt (dw_or (dt_not (dt_val (de_isi (T := "str") (de_var 3) (by rfl) T.n_isinstance (by rfl) T.n_str (by decide +kernel)))) (dw_or1 (dt_notIn (de_var 3) (de_var 2))))) (dss_one ds_none) dss_nil)))
      (dss_cons (ds_asg (de_var 0) (dg_tp rfl (dgs_cons (dg_nm 4 sc_seen.nd rfl (.inl rfl)) (dgs_cons (dg_nm 5 sc_seen.nd rfl (.inr rfl)) dgs_nil))))
      (dss_cons (ds_set 6 (de_lc rfl sc_seen.nd (di_seq (de_call G_orders_of hr hgd (by rfl) T.g_orders_of T.F_orders_of.kp T.b_orders_of (da_cons (de_var 0) da_nil))) (blkOk_by (own := [("n", 7)]) (N := N_seen) (sc := defScope s_seen) (by decide +kernel)) (fun _ _ _ _ _ => (dg_nm 7 sc_seen.nd rfl (.inl rfl))) (fun _ _ _ _ _ => (dts_one (dt_in (de_ix (de_ix (de_var 5) (de_var 7)) de_int) (de_var 1)))) (fun _ _ _ _ _ => (de_var 7))) sc_seen.nd rfl (.inr rfl))
      (dss_one (ds_ret (de_tup (da_cons (de_var 4) (da_cons (de_tupleOf (by rfl) T.n_tuple (da_cons (de_lc rfl sc_seen.nd (di_enum (by rfl) T.n_enumerate (da_cons (de_var 5) da_nil)) (blkOk_by (own := [("t", 8), ("row", 9)]) (N := N_seen) (sc := defScope s_seen) (by decide +kernel)) (fun _ _ _ _ _ => (dg_tp rfl (dgs_cons (dg_nm 8 sc_seen.nd rfl (.inl rfl)) (dgs_cons (dg_nm 9 sc_seen.nd rfl (.inl rfl)) dgs_nil)))) (fun _ _ _ _ _ => dts_nil) (fun _ _ _ _ _ => (de_call G_seen_row hr hgd (by rfl) T.g_seen_row T.F_seen_row.kp T.b_seen_row (da_cons (de_var 9) (da_cons (de_var 8) (da_cons (de_var 6) da_nil)))))) da_nil)) da_nil)))))))))).settled

theorem ok_with_rule (T : Txt K mg) : FG P w K mg base 2 T.f_with_rule T.fd_with_rule ["record", "rule"] F_with_rule := by
  have G_is_rule := (ok_is_rule (P := P) (w := w) (base := base) T).mono (by decide : 1 ≤ 1)
  exact (fg_of T.F_with_rule sc_with_rule fun cdv A outer s H hr hgd => (dss_cons (ds_if (dt_not (dt_val (de_call G_is_rule hr hgd (by rfl) T.g_is_rule T.F_is_rule.kp T.b_is_rule (da_cons (de_var 1) da_nil)))) (dss_one ds_none) dss_nil)
      (dss_one (ds_ret (de_tup (da_cons (de_var 1) (da_cons (de_ix (de_var 0) de_int) da_nil))))))).settled

theorem ok_cut (T : Txt K mg) : FG P w K mg base 3 T.f_cut T.fd_cut ["record", "t"] F_cut := by
  have G_is_number := (ok_is_number (P := P) (w := w) (base := base) T).mono (by decide : 2 ≤ 2)
  exact (fg_of T.F_cut sc_cut fun cdv A outer s H hr hgd => (dss_cons (ds_if (PW.pt (dw_or (dt_not (dt_val (de_call G_is_number hr hgd (by rfl) T.g_is_number T.F_is_number.kp T.b_is_number (da_cons (de_var 1) da_nil)))) (dw_or1 (dt_gt (de_var 1) (de_len (by rfl) T.n_len (da_cons (de_ix (de_var 0) de_int) da_nil)))))) (dss_one ds_none) dss_nil)
      (dss_one (ds_ret (de_tup (da_cons (de_ix (de_var 0) de_int) (da_cons (de_slice (de_ix (de_var 0) de_int) do_none (do_some (de_var 1))) da_nil))))))).settled

theorem ok_require (T : Txt K mg) : FG P w K mg base 1 T.f_require T.fd_require ["condition", "word", "at"] F_require := by
  exact (fg_of T.F_require sc_require fun cdv A outer s H hr hgd => (dss_one (ds_if (dt_not (dt_val (de_var 0))) (dss_one ds_none) dss_nil))).settled

theorem ok_has_shape (T : Txt K mg) : FG P w K mg base 7 T.f_has_shape T.fd_has_shape ["thing"] F_has_shape := by
  have G_is_row := (ok_is_row (P := P) (w := w) (base := base) T).mono (by decide : 6 ≤ 6)
  have G_is_rule := (ok_is_rule (P := P) (w := w) (base := base) T).mono (by decide : 1 ≤ 6)
  exact (fg_of T.F_has_shape sc_has_shape fun cdv A outer s H hr hgd => (dss_cons (ds_if (PW.pt (dw_or (dt_not (dt_val (de_isi (T := "tuple") (de_var 0) (by rfl) T.n_isinstance (by rfl) T.n_tuple (by decide +kernel)))) (dw_or (dt_ne hr (de_len (by rfl) T.n_len (da_cons (de_var 0) da_nil)) de_int) (dw_or (dt_not (dt_val (de_call G_is_rule hr hgd (by rfl) T.g_is_rule T.F_is_rule.kp T.b_is_rule (da_cons (de_ix (de_var 0) de_int) da_nil)))) (dw_or1 (dt_not (dt_val (de_isi (T := "tuple") (de_ix (de_var 0) de_int) (by rfl) T.n_isinstance (by rfl) T.n_tuple (by decide +kernel))))))))) (dss_one (ds_ret de_bl)) dss_nil)
      (dss_one (ds_ret (de_all rfl (by rfl) T.n_all (da_cons (de_lc rfl sc_has_shape.nd (di_seq (de_ix (de_var 0) de_int)) (blkOk_by (own := [("row", 1)]) (N := N_has_shape) (sc := defScope s_has_shape) (by decide +kernel)) (fun _ _ _ _ _ => (dg_nm 1 sc_has_shape.nd rfl (.inl rfl))) (fun _ _ _ _ _ => dts_nil) (fun _ _ _ _ _ => (de_call G_is_row hr hgd (by rfl) T.g_is_row T.F_is_row.kp T.b_is_row (da_cons (de_var 1) da_nil)))) da_nil)))))).settled

theorem ok_is_within (T : Txt K mg) : FG P w K mg base 1 T.f_is_within T.fd_is_within ["side", "limit", "price"] F_is_within := by
  exact (fg_of T.F_is_within sc_is_within fun cdv A outer s H hr hgd => (dss_one (ds_ret (de_ifExp (dt_eq hr (de_var 0) (de_glob (v := V.str "buy") (by rfl) T.g_BUY ⟨_, rfl⟩ (fun _ _ _ _ => .str _))) (de_le (de_var 2) (de_var 1)) (de_ge (de_var 2) (de_var 1)))))).settled

theorem ok_check_closed (T : Txt K mg) : FG P w K mg base 2 T.f_check_closed T.fd_check_closed ["rows", "t"] F_check_closed := by
  have G_fills_in := (ok_fills_in (P := P) (w := w) (base := base) T).mono (by decide : 1 ≤ 1)
  have G_is_shut := (ok_is_shut (P := P) (w := w) (base := base) T).mono (by decide : 1 ≤ 1)
  have G_require := (ok_require (P := P) (w := w) (base := base) T).mono (by decide : 1 ≤ 1)
  exact (fg_of T.F_check_closed sc_check_closed fun cdv A outer s H hr hgd => (dss_cons (ds_set 2 (de_ix (de_ix (de_var 0) (de_var 1)) de_int) sc_check_closed.nd rfl (.inl rfl))
      (dss_cons (ds_if (dt_eq hr (de_var 2) de_str) (dss_one (ds_expr (de_call G_require hr hgd (by rfl) T.g_require T.F_require.kp T.b_require (da_cons (de_eq hr (de_var 1) de_int) (da_cons de_str (da_cons (de_var 1) da_nil)))))) dss_nil)
      (dss_cons (ds_if (dt_eq hr (de_var 2) de_str) (dss_one (ds_expr (de_call G_require hr hgd (by rfl) T.g_require T.F_require.kp T.b_require (da_cons (de_call G_is_shut hr hgd (by rfl) T.g_is_shut T.F_is_shut.kp T.b_is_shut (da_cons (de_var 0) (da_cons (de_var 1) da_nil))) (da_cons de_str (da_cons (de_var 1) da_nil)))))) dss_nil)
      (dss_one (ds_if (dt_val (de_call G_is_shut hr hgd (by rfl) T.g_is_shut T.F_is_shut.kp T.b_is_shut (da_cons (de_var 0) (da_cons (de_var 1) da_nil)))) (dss_one (ds_expr (de_call G_require hr hgd (by rfl) T.g_require T.F_require.kp T.b_require (da_cons (de_eq hr (de_len (by rfl) T.n_len (da_cons (de_call G_fills_in hr hgd (by rfl) T.g_fills_in T.F_fills_in.kp T.b_fills_in (da_cons (de_ix (de_var 0) (de_var 1)) da_nil)) da_nil)) de_int) (da_cons de_str (da_cons (de_var 1) da_nil)))))) dss_nil)))))).settled

theorem ok_check_resting (T : Txt K mg) : FG P w K mg base 5 T.f_check_resting T.fd_check_resting ["rows", "t", "i"] F_check_resting := by
  have G_fills_in := (ok_fills_in (P := P) (w := w) (base := base) T).mono (by decide : 1 ≤ 4)
  have G_is_open := (ok_is_open (P := P) (w := w) (base := base) T).mono (by decide : 4 ≤ 4)
  have G_require := (ok_require (P := P) (w := w) (base := base) T).mono (by decide : 1 ≤ 4)
  exact (fg_of T.F_check_resting sc_check_resting fun cdv A outer s H hr hgd => (dss_cons (ds_set 3 (de_ix (de_ix (de_call G_fills_in hr hgd (by rfl) T.g_fills_in T.F_fills_in.kp T.b_fills_in (da_cons (de_ix (de_var 0) (de_var 1)) da_nil)) (de_var 2)) de_int) sc_check_resting.nd rfl (.inl rfl))
      (dss_one (ds_expr (de_call G_require hr hgd (by rfl) T.g_require T.F_require.kp T.b_require (da_cons (de_or (de_isN (de_var 3) de_non) (de_one (de_call G_is_open hr hgd (by rfl) T.g_is_open T.F_is_open.kp T.b_is_open (da_cons (de_var 0) (da_cons (de_var 3) (da_cons (de_var 1) (da_cons (de_var 2) da_nil))))))) (da_cons de_str (da_cons (de_tup (da_cons (de_var 1) (da_cons (de_var 2) da_nil))) da_nil)))))))).settled

theorem ok_check_own (T : Txt K mg) : FG P w K mg base 6 T.f_check_own T.fd_check_own ["rows", "t", "i"] F_check_own := by
  have G_check_resting := (ok_check_resting (P := P) (w := w) (base := base) T).mono (by decide : 5 ≤ 5)
  have G_is_within := (ok_is_within (P := P) (w := w) (base := base) T).mono (by decide : 1 ≤ 5)
  have G_require := (ok_require (P := P) (w := w) (base := base) T).mono (by decide : 1 ≤ 5)
  have G_rest_of := (ok_rest_of (P := P) (w := w) (base := base) T).mono (by decide : 3 ≤ 5)
  exact (fg_of T.F_check_own sc_check_own fun cdv A outer s H hr hgd => (dss_cons (ds_asg (de_ix (de_var 0) (de_var 1)) (dg_tp rfl (dgs_cons (dg_nm 3 sc_check_own.nd rfl (.inl rfl)) (dgs_cons (dg_nm 4 sc_check_own.nd rfl (.inl rfl)) (dgs_cons (dg_nm 5 sc_check_own.nd rfl (.inl rfl)) (dgs_cons (dg_nm 6 sc_check_own.nd rfl (.inl rfl)) (dgs_cons (dg_nm 7 sc_check_own.nd rfl (.inl rfl)) (dgs_cons (dg_nm 8 sc_check_own.nd rfl (.inl rfl)) dgs_nil))))))))
      (dss_cons (ds_asg (de_ix (de_var 8) (de_var 2)) (dg_tp rfl (dgs_cons (dg_nm 9 sc_check_own.nd rfl (.inl rfl)) (dgs_cons (dg_nm 10 sc_check_own.nd rfl (.inl rfl)) (dgs_cons (dg_nm 11 sc_check_own.nd rfl (.inl rfl)) dgs_nil)))))
      (dss_cons (ds_expr (de_call G_check_resting hr hgd (by rfl) T.g_check_resting T.F_check_resting.kp T.b_check_resting (da_cons (de_var 0) (da_cons (de_var 1) (da_cons (de_var 2) da_nil)))))
      (dss_cons (ds_expr (de_call G_require hr hgd (by rfl) T.g_require T.F_require.kp T.b_require (da_cons (de_or (de_isN (de_var 11) de_non) (de_one (de_ne hr (de_ix (de_ix (de_var 0) (de_var 11)) de_int) (de_var 5)))) (da_cons de_str (da_cons (de_tup (da_cons (de_var 1) (da_cons (de_var 2) da_nil))) da_nil)))))
      (dss_cons (ds_expr (de_call G_require hr hgd (by rfl) T.g_require T.F_require.kp T.b_require (da_cons (de_and (de_or (de_isN (de_var 11) de_non) (de_one (de_eq hr (de_ix (de_ix (de_var 0) (de_var 11)) de_int) (de_var 9)))) (de_one (de_call G_is_within hr hgd (by rfl) T.g_is_within T.F_is_within.kp T.b_is_within (da_cons (de_var 5) (da_cons (de_var 6) (da_cons (de_var 9) da_nil)))))) (da_cons de_str (da_cons (de_tup (da_cons (de_var 1) (da_cons (de_var 2) da_nil))) da_nil)))))
      (dss_cons (ds_set 12 (de_sub (de_var 7) (de_sum rfl (by rfl) T.n_sum (da_cons (de_lc rfl sc_check_own.nd (di_seq (de_slice (de_var 8) do_none (do_some (de_var 2)))) (blkOk_by (own := [("fill", 13)]) (N := N_check_own) (sc := defScope s_check_own) (by decide +kernel)) (fun _ _ _ _ _ => (dg_nm 13 sc_check_own.nd rfl (.inl rfl))) (fun _ _ _ _ _ => dts_nil) (fun _ _ _ _ _ => (de_ix (de_var 13) de_int))) da_nil))) sc_check_own.nd rfl (.inl rfl))
      (dss_one (ds_expr (de_call G_require hr hgd (by rfl) T.g_require T.F_require.kp T.b_require (da_cons (de_and (de_le (de_var 10) (de_var 12)) (de_one (de_or (de_isN (de_var 11) de_non) (de_one (de_le (de_var 10) (de_call G_rest_of hr hgd (by rfl) T.g_rest_of T.F_rest_of.kp T.b_rest_of (da_cons (de_var 0) (da_cons (de_var 11) (da_cons (de_var 1) (da_cons (de_var 2) da_nil)))))))))) (da_cons de_str (da_cons (de_tup (da_cons (de_var 1) (da_cons (de_var 2) da_nil))) da_nil))))))))))))).settled

theorem ok_check_print (T : Txt K mg) : FG P w K mg base 6 T.f_check_print T.fd_check_print ["rows", "t", "i"] F_check_print := by
  have G_check_resting := (ok_check_resting (P := P) (w := w) (base := base) T).mono (by decide : 5 ≤ 5)
  have G_require := (ok_require (P := P) (w := w) (base := base) T).mono (by decide : 1 ≤ 5)
  have G_rest_of := (ok_rest_of (P := P) (w := w) (base := base) T).mono (by decide : 3 ≤ 5)
  exact (fg_of T.F_check_print sc_check_print fun cdv A outer s H hr hgd => (dss_cons (ds_asg (de_ix (de_ix (de_ix (de_var 0) (de_var 1)) de_int) (de_var 2)) (dg_tp rfl (dgs_cons (dg_nm 3 sc_check_print.nd rfl (.inl rfl)) (dgs_cons (dg_nm 4 sc_check_print.nd rfl (.inl rfl)) (dgs_cons (dg_nm 5 sc_check_print.nd rfl (.inl rfl)) dgs_nil)))))
      (dss_cons (ds_expr (de_call G_check_resting hr hgd (by rfl) T.g_check_resting T.F_check_resting.kp T.b_check_resting (da_cons (de_var 0) (da_cons (de_var 1) (da_cons (de_var 2) da_nil)))))
      (dss_cons (ds_expr (de_call G_require hr hgd (by rfl) T.g_require T.F_require.kp T.b_require (da_cons (de_or (de_isN (de_var 5) de_non) (de_one (de_eq hr (de_ix (de_ix (de_var 0) (de_var 5)) de_int) (de_var 3)))) (da_cons de_str (da_cons (de_tup (da_cons (de_var 1) (da_cons (de_var 2) da_nil))) da_nil)))))
      (dss_one (ds_expr (de_call G_require hr hgd (by rfl) T.g_require T.F_require.kp T.b_require (da_cons (de_or (de_isN (de_var 5) de_non) (de_one (de_le (de_var 4) (de_call G_rest_of hr hgd (by rfl) T.g_rest_of T.F_rest_of.kp T.b_rest_of (da_cons (de_var 0) (da_cons (de_var 5) (da_cons (de_var 1) (da_cons (de_var 2) da_nil)))))))) (da_cons de_str (da_cons (de_tup (da_cons (de_var 1) (da_cons (de_var 2) da_nil))) da_nil)))))))))).settled

theorem ok_check_call (T : Txt K mg) : FG P w K mg base 5 T.f_check_call T.fd_check_call ["rows", "t"] F_check_call := by
  have G_is_open := (ok_is_open (P := P) (w := w) (base := base) T).mono (by decide : 4 ≤ 4)
  have G_is_within := (ok_is_within (P := P) (w := w) (base := base) T).mono (by decide : 1 ≤ 4)
  have G_require := (ok_require (P := P) (w := w) (base := base) T).mono (by decide : 1 ≤ 4)
  have G_rest_of := (ok_rest_of (P := P) (w := w) (base := base) T).mono (by decide : 3 ≤ 4)
  exact (fg_of T.F_check_call sc_check_call fun cdv A outer s H hr hgd => (dss_one (ds_for PassesOwn.never rfl (di_enum (by rfl) T.n_enumerate (da_cons (de_ix (de_ix (de_var 0) (de_var 1)) de_int) da_nil)) (dg_tp rfl (dgs_cons (dg_nm 2 sc_check_call.nd rfl (.inl rfl)) (dgs_cons (dg_tp rfl (dgs_cons (dg_nm 3 sc_check_call.nd rfl (.inl rfl)) (dgs_cons (dg_nm 4 sc_check_call.nd rfl (.inl rfl)) dgs_nil))) dgs_nil))) (dss_cons (ds_expr (de_call G_require hr hgd (by rfl) T.g_require T.F_require.kp T.b_require (da_cons (de_call G_is_open hr hgd (by rfl) T.g_is_open T.F_is_open.kp T.b_is_open (da_cons (de_var 0) (da_cons (de_var 3) (da_cons (de_var 1) (da_cons de_int da_nil))))) (da_cons de_str (da_cons (de_tup (da_cons (de_var 1) (da_cons (de_var 2) da_nil))) da_nil)))))
      (dss_cons (ds_expr (de_call G_require hr hgd (by rfl) T.g_require T.F_require.kp T.b_require (da_cons (de_call G_is_within hr hgd (by rfl) T.g_is_within T.F_is_within.kp T.b_is_within (da_cons (de_ix (de_ix (de_var 0) (de_var 3)) de_int) (da_cons (de_ix (de_ix (de_var 0) (de_var 3)) de_int) (da_cons (de_ix (de_ix (de_var 0) (de_var 1)) de_int) da_nil)))) (da_cons de_str (da_cons (de_tup (da_cons (de_var 1) (da_cons (de_var 2) da_nil))) da_nil)))))
      (dss_one (ds_expr (de_call G_require hr hgd (by rfl) T.g_require T.F_require.kp T.b_require (da_cons (de_le (de_var 4) (de_call G_rest_of hr hgd (by rfl) T.g_rest_of T.F_rest_of.kp T.b_rest_of (da_cons (de_var 0) (da_cons (de_var 3) (da_cons (de_var 1) (da_cons de_int da_nil)))))) (da_cons de_str (da_cons (de_tup (da_cons (de_var 1) (da_cons (de_var 2) da_nil))) da_nil))))))))))).settled

theorem ok_check_row (T : Txt K mg) : FG P w K mg base 7 T.f_check_row T.fd_check_row ["rows", "t"] F_check_row := by
  have G_check_call := (ok_check_call (P := P) (w := w) (base := base) T).mono (by decide : 5 ≤ 6)
  have G_check_closed := (ok_check_closed (P := P) (w := w) (base := base) T).mono (by decide : 2 ≤ 6)
  have G_check_own := (ok_check_own (P := P) (w := w) (base := base) T).mono (by decide : 6 ≤ 6)
  have G_check_print := (ok_check_print (P := P) (w := w) (base := base) T).mono (by decide : 6 ≤ 6)
  have G_is_open := (ok_is_open (P := P) (w := w) (base := base) T).mono (by decide : 4 ≤ 6)
  have G_require := (ok_require (P := P) (w := w) (base := base) T).mono (by decide : 1 ≤ 6)
  exact (fg_of T.F_check_row sc_check_row fun cdv A outer s H hr hgd => (dss_cons (ds_expr (de_call G_check_closed hr hgd (by rfl) T.g_check_closed T.F_check_closed.kp T.b_check_closed (da_cons (de_var 0) (da_cons (de_var 1) da_nil))))
      (dss_one (ds_match (de_ix (de_ix (de_var 0) (de_var 1)) de_int) (dm_case (dss_one (ds_expr (de_call G_require hr hgd (by rfl) T.g_require T.F_require.kp T.b_require (da_cons (de_call G_is_open hr hgd (by rfl) T.g_is_open T.F_is_open.kp T.b_is_open (da_cons (de_var 0) (da_cons (de_ix (de_ix (de_var 0) (de_var 1)) de_int) (da_cons (de_var 1) (da_cons de_int da_nil))))) (da_cons de_str (da_cons (de_var 1) da_nil)))))) (dm_case (dss_one (ds_expr (de_call G_check_call hr hgd (by rfl) T.g_check_call T.F_check_call.kp T.b_check_call (da_cons (de_var 0) (da_cons (de_var 1) da_nil))))) (dm_case (dss_one (ds_for PassesOwn.never rfl (di_rng1 (by rfl) T.n_range (da_cons (de_len (by rfl) T.n_len (da_cons (de_ix (de_ix (de_var 0) (de_var 1)) de_int) da_nil)) da_nil)) (dg_nm 2 sc_check_row.nd rfl (.inl rfl)) (dss_one (ds_expr (de_call G_check_own hr hgd (by rfl) T.g_check_own T.F_check_own.kp T.b_check_own (da_cons (de_var 0) (da_cons (de_var 1) (da_cons (de_var 2) da_nil)))))))) (dm_case (dss_one (ds_for PassesOwn.never rfl (di_rng1 (by rfl) T.n_range (da_cons (de_len (by rfl) T.n_len (da_cons (de_ix (de_ix (de_var 0) (de_var 1)) de_int) da_nil)) da_nil)) (dg_nm 2 sc_check_row.nd rfl (.inl rfl)) (dss_one (ds_expr (de_call G_check_print hr hgd (by rfl) T.g_check_print T.F_check_print.kp T.b_check_print (da_cons (de_var 0) (da_cons (de_var 1) (da_cons (de_var 2) da_nil)))))))) dm_nil)))))))).settled

theorem ok_lets_record (T : Txt K mg) : FG P w K mg base 8 T.f_lets_record T.fd_lets_record ["thing"] F_lets_record := by
  have G_check_row := (ok_check_row (P := P) (w := w) (base := base) T).mono (by decide : 7 ≤ 7)
  have G_has_shape := (ok_has_shape (P := P) (w := w) (base := base) T).mono (by decide : 7 ≤ 7)
  have G_require := (ok_require (P := P) (w := w) (base := base) T).mono (by decide : 1 ≤ 7)
  exact (fg_of T.F_lets_record sc_lets_record fun cdv A outer s H hr hgd => (dss_cons (ds_expr (de_call G_require hr hgd (by rfl) T.g_require T.F_require.kp T.b_require (da_cons (de_call G_has_shape hr hgd (by rfl) T.g_has_shape T.F_has_shape.kp T.b_has_shape (da_cons (de_var 0) da_nil)) (da_cons de_str (da_cons (de_neg de_int) da_nil)))))
      (dss_cons (ds_asg (de_var 0) (dg_tp rfl (dgs_cons (dg_nm 1 sc_lets_record.nd rfl (.inl rfl)) (dgs_cons (dg_nm 2 sc_lets_record.nd rfl (.inl rfl)) dgs_nil))))
      (dss_cons (ds_for PassesOwn.never rfl (di_rng1 (by rfl) T.n_range (da_cons (de_len (by rfl) T.n_len (da_cons (de_var 2) da_nil)) da_nil)) (dg_nm 3 sc_lets_record.nd rfl (.inl rfl)) (dss_one (ds_expr (de_call G_check_row hr hgd (by rfl) T.g_check_row T.F_check_row.kp T.b_check_row (da_cons (de_var 2) (da_cons (de_var 3) da_nil))))))
      (dss_one (ds_ret (de_len (by rfl) T.n_len (da_cons (de_var 2) da_nil)))))))).settled

theorem ok__law_reader (T : Txt K mg) : FG P w K mg base 1 T.f__law_reader T.fd__law_reader ["_law_script"] F__law_reader := by
  exact fg_of T.F__law_reader sc__law_reader fun cdv A outer s H hr hgd => (dss_one (ds_ret (de_disp (DP.cons de_str (de_listOf (by rfl) T.n_list (da_cons (de_slice (de_var 0) do_none (do_some de_int)) da_nil)) (DP.cons de_str de_int (DP.cons de_str de_int (DP.cons de_str de_int DP.nil)))))))

theorem ok__law_draw (T : Txt K mg) : FG P w K mg base 1 T.f__law_draw T.fd__law_draw ["_law_reader_here", "_law_many"] F__law_draw := by
  exact (fg_of T.F__law_draw sc__law_draw fun cdv A outer s H hr hgd => (dss_cons (ds_set 2 (de_add (de_dget hr (de_var 0) de_str) de_int) sc__law_draw.nd rfl (.inl rfl))
      (dss_cons (ds_dput hr (de_var 0) de_str (de_var 2))
      (dss_cons (ds_if (dt_gt (de_dget hr (de_var 0) de_str) de_int) (dss_cons (ds_set 3 (de_mod (de_intOf (by rfl) T.n_int (da_cons (de_dget hr (de_var 0) de_str) da_nil)) (de_var 1)) sc__law_draw.nd rfl (.inl rfl))
      (dss_cons (ds_dput hr (de_var 0) de_str (de_div (de_dget hr (de_var 0) de_str) (de_var 1)))
      (dss_one (ds_ret (de_var 3))))) dss_nil)
      (dss_cons (ds_set 4 (de_dget hr (de_var 0) de_str) sc__law_draw.nd rfl (.inl rfl))
      (dss_cons (ds_dput hr (de_var 0) de_str (de_add (de_var 4) de_int))
      (dss_cons (ds_set 5 (de_dget hr (de_var 0) de_str) sc__law_draw.nd rfl (.inl rfl))
      (dss_cons (ds_set 6 (de_ifExp (dt_gt (de_len (by rfl) T.n_len (da_cons (de_var 5) da_nil)) de_int) (de_ix (de_var 5) (de_mod (de_intOf (by rfl) T.n_int (da_cons (de_var 4) da_nil)) (de_len (by rfl) T.n_len (da_cons (de_var 5) da_nil)))) de_int) sc__law_draw.nd rfl (.inl rfl))
      (dss_cons (ds_if (PW.pt (dw_and (dt_lt (de_var 4) (de_len (by rfl) T.n_len (da_cons (de_var 5) da_nil))) (dw_and1 (dt_ge (de_var 6) (de_pow de_int de_int))))) (dss_cons (ds_dput hr (de_var 0) de_str (de_div (de_var 6) (de_var 1)))
      (dss_one (ds_ret (de_mod (de_intOf (by rfl) T.n_int (da_cons (de_var 6) da_nil)) (de_var 1))))) dss_nil)
      (dss_cons (ds_set 7 (de_mod (de_intOf (by rfl) T.n_int (da_cons (de_pow (de_add (de_add (de_mod (de_intOf (by rfl) T.n_int (da_cons (de_var 6) da_nil)) de_int) (de_mul de_int (de_var 2))) de_int) de_int) da_nil)) de_int) sc__law_draw.nd rfl (.inl rfl))
      (dss_one (ds_ret (de_mod (de_intOf (by rfl) T.n_int (da_cons (de_div (de_mod (de_intOf (by rfl) T.n_int (da_cons (de_pow (de_add (de_var 7) (de_mul (de_mul de_int (de_var 2)) (de_var 2))) de_int) da_nil)) de_int) de_int) da_nil)) (de_var 1)))))))))))))).settled

theorem ok__law_fills (T : Txt K mg) : FG P w K mg base 1 T.f__law_fills T.fd__law_fills ["_law_row"] F__law_fills := by
  exact (fg_of T.F__law_fills sc__law_fills fun cdv A outer s H hr hgd => (dss_one (ds_ret (de_ifExp (dt_eq hr (de_ix (de_var 0) de_int) de_str) (de_ix (de_var 0) de_int) (de_ifExp (dt_eq hr (de_ix (de_var 0) de_int) de_str) (de_ix (de_var 0) de_int) (de_tup da_nil)))))).settled

theorem ok__law_trades (T : Txt K mg) : FG P w K mg base 2 T.f__law_trades T.fd__law_trades ["_law_rows", "_law_t", "_law_i"] F__law_trades := by
  have G__law_fills := (ok__law_fills (P := P) (w := w) (base := base) T).mono (by decide : 1 ≤ 1)
  exact (fg_of T.F__law_trades sc__law_trades fun cdv A outer s H hr hgd => (dss_cons (ds_set 3 (de_new da_nil) sc__law_trades.nd rfl (.inl rfl))
      (dss_cons (ds_for PassesOwn.never rfl (di_rng1 (by rfl) T.n_range (da_cons (de_min rfl (by rfl) T.n_min (da_cons (de_add (de_var 1) de_int) (da_cons (de_len (by rfl) T.n_len (da_cons (de_var 0) da_nil)) da_nil))) da_nil)) (dg_nm 4 sc__law_trades.nd rfl (.inl rfl)) (dss_cons (ds_set 5 (de_ix (de_var 0) (de_var 4)) sc__law_trades.nd rfl (.inl rfl))
      (dss_cons (ds_for PassesOwn.never rfl (di_seq (de_slice (de_call G__law_fills hr hgd (by rfl) T.g__law_fills T.F__law_fills.kp T.b__law_fills (da_cons (de_var 5) da_nil)) do_none (do_some (de_ifExp (dt_lt (de_var 4) (de_var 1)) (de_len (by rfl) T.n_len (da_cons (de_call G__law_fills hr hgd (by rfl) T.g__law_fills T.F__law_fills.kp T.b__law_fills (da_cons (de_var 5) da_nil)) da_nil)) (de_var 2))))) (dg_tp rfl (dgs_cons (dg_nm 6 sc__law_trades.nd rfl (.inl rfl)) (dgs_cons (dg_nm 7 sc__law_trades.nd rfl (.inl rfl)) (dgs_cons (dg_nm 8 sc__law_trades.nd rfl (.inl rfl)) dgs_nil)))) (dss_cons (ds_if (dt_eq hr (de_ix (de_var 5) de_int) de_str) (dss_one (ds_expr (de_append (de_var 3) (da_cons (de_tup (da_cons (de_var 4) (da_cons (de_var 7) da_nil))) da_nil)))) dss_nil)
      (dss_one (ds_if (dt_notN (de_var 8) de_non) (dss_one (ds_expr (de_append (de_var 3) (da_cons (de_tup (da_cons (de_var 8) (da_cons (de_var 7) da_nil))) da_nil)))) dss_nil))))
      (dss_one (ds_if (PW.pt (dw_and (dt_eq hr (de_ix (de_var 5) de_int) de_str) (dw_and1 (dt_lt (de_var 4) (de_var 1))))) (dss_one (ds_expr (de_extend (de_var 3) (da_cons (de_ix (de_var 5) de_int) da_nil)))) dss_nil)))))
      (dss_one (ds_ret (de_var 3)))))).settled

theorem ok__law_rest (T : Txt K mg) : FG P w K mg base 3 T.f__law_rest T.fd__law_rest ["_law_rows", "_law_n", "_law_t", "_law_i"] F__law_rest := by
  have G__law_trades := (ok__law_trades (P := P) (w := w) (base := base) T).mono (by decide : 2 ≤ 2)
  exact (fg_of T.F__law_rest sc__law_rest fun cdv A outer s H hr hgd => (dss_one (ds_ret (de_sub (de_ix (de_ix (de_var 0) (de_var 1)) de_int) (de_sum rfl (by rfl) T.n_sum (da_cons (de_lc rfl sc__law_rest.nd (di_seq (de_call G__law_trades hr hgd (by rfl) T.g__law_trades T.F__law_trades.kp T.b__law_trades (da_cons (de_var 0) (da_cons (de_var 2) (da_cons (de_var 3) da_nil))))) (blkOk_by (own := [("_law_m", 4), ("_law_size", 5)]) (N := N__law_rest) (sc := defScope s__law_rest) (by decide +kernel)) (fun _ _ _ _ _ => (dg_tp rfl (dgs_cons (dg_nm 4 sc__law_rest.nd rfl (.inl rfl)) (dgs_cons (dg_nm 5 sc__law_rest.nd rfl (.inl rfl)) dgs_nil)))) (fun _ _ _ _ _ => (dts_one (dt_eq hr (de_var 4) (de_var 1)))) (fun _ _ _ _ _ => (de_var 5))) da_nil)))))).settled

theorem ok__law_orders (T : Txt K mg) : FG P w K mg base 1 T.f__law_orders T.fd__law_orders ["_law_rows"] F__law_orders := by
  exact (fg_of T.F__law_orders sc__law_orders fun cdv A outer s H hr hgd => (dss_one (ds_ret (de_lc rfl sc__law_orders.nd (di_rng1 (by rfl) T.n_range (da_cons (de_len (by rfl) T.n_len (da_cons (de_var 0) da_nil)) da_nil)) (blkOk_by (own := [("_law_k", 1)]) (N := N__law_orders) (sc := defScope s__law_orders) (by decide +kernel)) (fun _ _ _ _ _ => (dg_nm 1 sc__law_orders.nd rfl (.inl rfl))) (fun _ _ _ _ _ => (dts_one (dt_eq hr (de_ix (de_ix (de_var 0) (de_var 1)) de_int) de_str))) (fun _ _ _ _ _ => (de_var 1)))))).settled

theorem ok__law_open (T : Txt K mg) : FG P w K mg base 3 T.f__law_open T.fd__law_open ["_law_rows", "_law_t", "_law_i"] F__law_open := by
  have G__law_orders := (ok__law_orders (P := P) (w := w) (base := base) T).mono (by decide : 1 ≤ 2)
  have G__law_trades := (ok__law_trades (P := P) (w := w) (base := base) T).mono (by decide : 2 ≤ 2)
  exact (fg_of T.F__law_open sc__law_open fun cdv A outer s H hr hgd => (dss_cons (ds_set 3 (de_lc rfl sc__law_open.nd (di_seq (de_slice (de_var 0) do_none (do_some (de_var 1)))) (blkOk_by (own := [("_law_row", 8)]) (N := N__law_open) (sc := defScope s__law_open) (by decide +kernel)) (fun _ _ _ _ _ => (dg_nm 8 sc__law_open.nd rfl (.inl rfl))) (fun _ _ _ _ _ => (dts_one (dt_eq hr (de_ix (de_var 8) de_int) de_str))) (fun _ _ _ _ _ => (de_ix (de_var 8) de_int))) sc__law_open.nd rfl (.inr rfl))
      (dss_cons (ds_set 4 de_dnew sc__law_open.nd rfl (.inr rfl))
      (dss_cons (ds_for PassesOwn.never rfl (di_seq (de_call G__law_trades hr hgd (by rfl) T.g__law_trades T.F__law_trades.kp T.b__law_trades (da_cons (de_var 0) (da_cons (de_var 1) (da_cons (de_var 2) da_nil))))) (dg_tp rfl (dgs_cons (dg_nm 5 sc__law_open.nd rfl (.inl rfl)) (dgs_cons (dg_nm 6 sc__law_open.nd rfl (.inl rfl)) dgs_nil))) (dss_one (ds_dput hr (de_var 4) (de_var 5) (de_add (de_dget2 hr (de_var 4) (de_var 5) de_int) (de_var 6)))))
      (dss_cons (ds_setLc 7 rfl sc__law_open.nd rfl rfl (sw_true rfl rfl rfl (by decide +kernel)) (di_seq (de_call G__law_orders hr hgd (by rfl) T.g__law_orders T.F__law_orders.kp T.b__law_orders (da_cons (de_var 0) da_nil))) (blkOk_by (own := [("_law_n", 5)]) (N := N__law_open) (sc := defScope s__law_open) (by decide +kernel)) (fun _ _ _ _ _ => (dg_nm 5 sc__law_open.nd rfl (.inl rfl))) (fun _ _ _ _ _ => (dts_one (PW.pt (dw_and (dt_lt (de_var 5) (de_var 1)) (dw_and1 (dt_notIn (de_var 5) (de_var 3))))))) (fun _ _ _ _ _ => (de_var 5)))
      (dss_one (ds_ret (de_lc rfl sc__law_open.nd (di_seq (de_var 7)) (blkOk_by (own := [("_law_n", 5)]) (N := N__law_open) (sc := defScope s__law_open) (by decide +kernel)) (fun _ _ _ _ _ => (dg_nm 5 sc__law_open.nd rfl (.inl rfl))) (fun _ _ _ _ _ => (dts_one (dt_gt (de_ix (de_ix (de_var 0) (de_var 5)) de_int) (de_dget2 hr (de_var 4) (de_var 5) de_int)))) (fun _ _ _ _ _ => (de_var 5)))))))))).settled

theorem ok__law_is_shut (T : Txt K mg) : FG P w K mg base 1 T.f__law_is_shut T.fd__law_is_shut ["_law_rows", "_law_t"] F__law_is_shut := by
  exact (fg_of T.F__law_is_shut sc__law_is_shut fun cdv A outer s H hr hgd => (dss_one (ds_ret (de_and (de_gt (de_var 1) de_int) (de_and (de_eq hr (de_ix (de_var 0) de_int) (de_tup (da_cons de_str da_nil))) (de_one (de_eq hr (de_lc rfl sc__law_is_shut.nd (di_seq (de_slice (de_var 0) (do_some de_int) (do_some (de_var 1)))) (blkOk_by (own := [("_law_row", 2)]) (N := N__law_is_shut) (sc := defScope s__law_is_shut) (by decide +kernel)) (fun _ _ _ _ _ => (dg_nm 2 sc__law_is_shut.nd rfl (.inl rfl))) (fun _ _ _ _ _ => (dts_one (dt_eq hr (de_ix (de_var 2) de_int) de_str))) (fun _ _ _ _ _ => (de_var 2))) (de_lst da_nil)))))))).settled

theorem ok__law_new_fills (T : Txt K mg) : FG P w K mg base 4 T.f__law_new_fills T.fd__law_new_fills ["_law_reader_here", "_law_rows", "_law_most", "_law_left", "_law_side", "_law_limit"] F__law_new_fills := by
  have G__law_draw := (ok__law_draw (P := P) (w := w) (base := base) T).mono (by decide : 1 ≤ 3)
  have G__law_open := (ok__law_open (P := P) (w := w) (base := base) T).mono (by decide : 3 ≤ 3)
  have G__law_rest := (ok__law_rest (P := P) (w := w) (base := base) T).mono (by decide : 3 ≤ 3)
  exact (fg_of T.F__law_new_fills sc__law_new_fills fun cdv A outer s H hr hgd => (dss_cons (ds_par 6 7 rfl sc__law_new_fills.nd rfl rfl (by decide) rfl rfl (da_cons (de_new da_nil) (da_cons (de_len (by rfl) T.n_len (da_cons (de_var 1) da_nil)) da_nil)) (by rfl))
      (dss_cons (ds_for PassesOwn.never rfl (di_rng1 (by rfl) T.n_range (da_cons (de_call G__law_draw hr hgd (by rfl) T.g__law_draw T.F__law_draw.kp T.b__law_draw (da_cons (de_var 0) (da_cons (de_add (de_var 2) de_int) da_nil))) da_nil)) (dg_nm 8 sc__law_new_fills.nd rfl (.inl rfl)) (dss_cons (ds_set 9 (de_add (de_var 1) (de_lst (da_cons (de_tup (da_cons de_str (da_cons (de_tupleOf (by rfl) T.n_tuple (da_cons (de_var 6) da_nil)) da_nil))) da_nil))) sc__law_new_fills.nd rfl (.inl rfl))
      (dss_cons (ds_setLc 10 rfl sc__law_new_fills.nd rfl rfl (sw_true rfl rfl rfl (by decide +kernel)) (di_seq (de_call G__law_open hr hgd (by rfl) T.g__law_open T.F__law_open.kp T.b__law_open (da_cons (de_var 9) (da_cons (de_var 7) (da_cons (de_len (by rfl) T.n_len (da_cons (de_var 6) da_nil)) da_nil))))) (blkOk_by (own := [("_law_n", 12)]) (N := N__law_new_fills) (sc := defScope s__law_new_fills) (by decide +kernel)) (fun _ _ _ _ _ => (dg_nm 12 sc__law_new_fills.nd rfl (.inl rfl))) (fun _ _ _ _ _ => (dts_one (PW.pt (dw_or (dt_isN (de_var 4) de_non) (dw_or1 (dt_ne hr (de_ix (de_ix (de_var 1) (de_var 12)) de_int) (de_var 4))))))) (fun _ _ _ _ _ => (de_var 12)))
      (dss_cons (ds_if (dt_notN (de_var 4) de_non) (dss_one (ds_setLc 10 rfl sc__law_new_fills.nd rfl rfl (sw_true rfl rfl rfl (by decide +kernel)) (di_seq (de_var 10)) (blkOk_by (own := [("_law_n", 12)]) (N := N__law_new_fills) (sc := defScope s__law_new_fills) (by decide +kernel)) (fun _ _ _ _ _ => (dg_nm 12 sc__law_new_fills.nd rfl (.inl rfl))) (fun _ _ _ _ _ => (dts_one (dt_le (de_mul (de_sub (de_ix (de_ix (de_var 1) (de_var 12)) de_int) (de_var 5)) (de_ifExp (dt_eq hr (de_var 4) de_str) de_int (de_neg de_int))) de_int))) (fun _ _ _ _ _ => (de_var 12)))) dss_nil)
      (dss_cons (ds_set 11 (de_sub (de_var 3) (de_sum rfl (by rfl) T.n_sum (da_cons (de_lc rfl sc__law_new_fills.nd (di_seq (de_var 6)) (blkOk_by (own := [("_law_one", 15)]) (N := N__law_new_fills) (sc := defScope s__law_new_fills) (by decide +kernel)) (fun _ _ _ _ _ => (dg_nm 15 sc__law_new_fills.nd rfl (.inl rfl))) (fun _ _ _ _ _ => dts_nil) (fun _ _ _ _ _ => (de_ix (de_var 15) de_int))) da_nil))) sc__law_new_fills.nd rfl (.inl rfl))
      (dss_cons (ds_set 12 (de_ifExp (PW.pt (dw_and (dt_ne hr (de_var 10) (de_lst da_nil)) (dw_and1 (dt_gt (de_call G__law_draw hr hgd (by rfl) T.g__law_draw T.F__law_draw.kp T.b__law_draw (da_cons (de_var 0) (da_cons de_int da_nil))) de_int)))) (de_ix (de_var 10) (de_call G__law_draw hr hgd (by rfl) T.g__law_draw T.F__law_draw.kp T.b__law_draw (da_cons (de_var 0) (da_cons (de_len (by rfl) T.n_len (da_cons (de_var 10) da_nil)) da_nil)))) de_non) sc__law_new_fills.nd rfl (.inl rfl))
      (dss_cons (ds_set 13 (de_ifExp (dt_notN (de_var 12) de_non) (de_min rfl (by rfl) T.n_min (da_cons (de_var 11) (da_cons (de_call G__law_rest hr hgd (by rfl) T.g__law_rest T.F__law_rest.kp T.b__law_rest (da_cons (de_var 9) (da_cons (de_var 12) (da_cons (de_var 7) (da_cons (de_len (by rfl) T.n_len (da_cons (de_var 6) da_nil)) da_nil))))) da_nil))) (de_var 11)) sc__law_new_fills.nd rfl (.inl rfl))
      (dss_one (ds_if (dt_gt (de_var 13) de_int) (dss_cons (ds_set 14 (de_ifExp (dt_notN (de_var 12) de_non) (de_ix (de_ix (de_var 1) (de_var 12)) de_int) (de_add de_int (de_call G__law_draw hr hgd (by rfl) T.g__law_draw T.F__law_draw.kp T.b__law_draw (da_cons (de_var 0) (da_cons de_int da_nil))))) sc__law_new_fills.nd rfl (.inl rfl))
      (dss_cons (ds_if (PW.pt (dw_and (dt_isN (de_var 12) de_non) (dw_and1 (dt_notN (de_var 4) de_non)))) (dss_one (ds_set 14 (de_add (de_var 5) (de_mul (de_call G__law_draw hr hgd (by rfl) T.g__law_draw T.F__law_draw.kp T.b__law_draw (da_cons (de_var 0) (da_cons de_int da_nil))) (de_ifExp (dt_eq hr (de_var 4) de_str) (de_neg de_int) de_int))) sc__law_new_fills.nd rfl (.inl rfl))) dss_nil)
      (dss_one (ds_expr (de_append (de_var 6) (da_cons (de_tup (da_cons (de_var 14) (da_cons (de_add de_int (de_call G__law_draw hr hgd (by rfl) T.g__law_draw T.F__law_draw.kp T.b__law_draw (da_cons (de_var 0) (da_cons (de_min rfl (by rfl) T.n_min (da_cons (de_var 13) (da_cons de_int da_nil))) da_nil)))) (da_cons (de_var 12) da_nil)))) da_nil)))))) dss_nil)))))))))
      (dss_one (ds_ret (de_tupleOf (by rfl) T.n_tuple (da_cons (de_var 6) da_nil))))))).settled

theorem ok__law_new_row (T : Txt K mg) : FG P w K mg base 5 T.f__law_new_row T.fd__law_new_row ["_law_reader_here", "_law_rows"] F__law_new_row := by
  have G__law_draw := (ok__law_draw (P := P) (w := w) (base := base) T).mono (by decide : 1 ≤ 4)
  have G__law_is_shut := (ok__law_is_shut (P := P) (w := w) (base := base) T).mono (by decide : 1 ≤ 4)
  have G__law_new_fills := (ok__law_new_fills (P := P) (w := w) (base := base) T).mono (by decide : 4 ≤ 4)
  have G__law_open := (ok__law_open (P := P) (w := w) (base := base) T).mono (by decide : 3 ≤ 4)
  have G__law_rest := (ok__law_rest (P := P) (w := w) (base := base) T).mono (by decide : 3 ≤ 4)
  exact (fg_of T.F__law_new_row sc__law_new_row fun cdv A outer s H hr hgd => (dss_cons (ds_asg (de_tup (da_cons (de_len (by rfl) T.n_len (da_cons (de_var 1) da_nil)) (da_cons (de_call G__law_is_shut hr hgd (by rfl) T.g__law_is_shut T.F__law_is_shut.kp T.b__law_is_shut (da_cons (de_var 1) (da_cons (de_len (by rfl) T.n_len (da_cons (de_var 1) da_nil)) da_nil))) da_nil))) (dg_tp rfl (dgs_cons (dg_nm 2 sc__law_new_row.nd rfl (.inr rfl)) (dgs_cons (dg_nm 3 sc__law_new_row.nd rfl (.inl rfl)) dgs_nil))))
      (dss_cons (ds_par 4 5 rfl sc__law_new_row.nd rfl rfl (by decide) rfl rfl (da_cons (de_call G__law_open hr hgd (by rfl) T.g__law_open T.F__law_open.kp T.b__law_open (da_cons (de_var 1) (da_cons (de_var 2) (da_cons de_int da_nil)))) (da_cons (de_call G__law_draw hr hgd (by rfl) T.g__law_draw T.F__law_draw.kp T.b__law_draw (da_cons (de_var 0) (da_cons de_int da_nil))) da_nil)) (by rfl))
      (dss_cons (ds_if (PW.pt (dw_and (dt_val (de_var 3)) (dw_and1 (dt_eq hr (de_var 5) de_int)))) (dss_cons (ds_set 6 (de_add de_int (de_call G__law_draw hr hgd (by rfl) T.g__law_draw T.F__law_draw.kp T.b__law_draw (da_cons (de_var 0) (da_cons de_int da_nil)))) sc__law_new_row.nd rfl (.inr rfl))
      (dss_cons (ds_setLc 7 rfl sc__law_new_row.nd rfl rfl (sw_true rfl rfl rfl (by decide +kernel)) (di_seq (de_var 4)) (blkOk_by (own := [("_law_n", 13)]) (N := N__law_new_row) (sc := defScope s__law_new_row) (by decide +kernel)) (fun _ _ _ _ _ => (dg_nm 13 sc__law_new_row.nd rfl (.inl rfl))) (fun _ _ _ _ _ => (dts_one (PW.pt (dw_or (dt_eq hr (de_ge (de_ix (de_ix (de_var 1) (de_var 13)) de_int) (de_var 6)) (de_eq hr (de_ix (de_ix (de_var 1) (de_var 13)) de_int) de_str)) (dw_or1 (dt_eq hr (de_ix (de_ix (de_var 1) (de_var 13)) de_int) (de_var 6))))))) (fun _ _ _ _ _ => (de_var 13)))
      (dss_cons (ds_setLc 8 rfl sc__law_new_row.nd rfl rfl (sw_true rfl rfl rfl (by decide +kernel)) (di_seq (de_slice3 (de_var 7) (do_some (de_call G__law_draw hr hgd (by rfl) T.g__law_draw T.F__law_draw.kp T.b__law_draw (da_cons (de_var 0) (da_cons de_int da_nil)))) do_none (do_some de_int))) (blkOk_by (own := [("_law_n", 13)]) (N := N__law_new_row) (sc := defScope s__law_new_row) (by decide +kernel)) (fun _ _ _ _ _ => (dg_nm 13 sc__law_new_row.nd rfl (.inl rfl))) (fun _ _ _ _ _ => dts_nil) (fun _ _ _ _ _ => (de_tup (da_cons (de_var 13) (da_cons (de_add de_int (de_call G__law_draw hr hgd (by rfl) T.g__law_draw T.F__law_draw.kp T.b__law_draw (da_cons (de_var 0) (da_cons (de_call G__law_rest hr hgd (by rfl) T.g__law_rest T.F__law_rest.kp T.b__law_rest (da_cons (de_var 1) (da_cons (de_var 13) (da_cons (de_var 2) (da_cons de_int da_nil))))) da_nil)))) da_nil)))))
      (dss_one (ds_ret (de_ifExp (PW.pt (dw_or (dt_ne hr (de_var 8) (de_lst da_nil)) (dw_or1 (dt_eq hr (de_call G__law_draw hr hgd (by rfl) T.g__law_draw T.F__law_draw.kp T.b__law_draw (da_cons (de_var 0) (da_cons de_int da_nil))) de_int)))) (de_tup (da_cons de_str (da_cons (de_var 6) (da_cons (de_tupleOf (by rfl) T.n_tuple (da_cons (de_var 8) da_nil)) da_nil)))) (de_tup (da_cons de_str (da_cons de_non (da_cons (de_tup da_nil) da_nil)))))))))) dss_nil)
      (dss_cons (ds_if (PW.pt (dw_and (dt_eq hr (de_var 5) de_int) (dw_and1 (dt_ne hr (de_var 4) (de_lst da_nil))))) (dss_one (ds_ret (de_tup (da_cons de_str (da_cons (de_ix (de_var 4) (de_call G__law_draw hr hgd (by rfl) T.g__law_draw T.F__law_draw.kp T.b__law_draw (da_cons (de_var 0) (da_cons (de_len (by rfl) T.n_len (da_cons (de_var 4) da_nil)) da_nil)))) da_nil))))) dss_nil)
      (dss_cons (ds_if (dt_gt (de_var 5) de_int) (dss_one (ds_ret (de_tup (da_cons de_str (da_cons (de_ifExp (dt_val (de_var 3)) (de_tup da_nil) (de_call G__law_new_fills hr hgd (by rfl) T.g__law_new_fills T.F__law_new_fills.kp T.b__law_new_fills (da_cons (de_var 0) (da_cons (de_var 1) (da_cons de_int (da_cons de_int (da_cons de_non (da_cons de_int da_nil)))))))) da_nil))))) dss_nil)
      (dss_cons (ds_asg (de_tup (da_cons (de_ix (de_lst (da_cons de_str (da_cons de_str da_nil))) (de_call G__law_draw hr hgd (by rfl) T.g__law_draw T.F__law_draw.kp T.b__law_draw (da_cons (de_var 0) (da_cons de_int da_nil)))) (da_cons (de_add de_int (de_call G__law_draw hr hgd (by rfl) T.g__law_draw T.F__law_draw.kp T.b__law_draw (da_cons (de_var 0) (da_cons de_int da_nil)))) da_nil))) (dg_tp rfl (dgs_cons (dg_nm 9 sc__law_new_row.nd rfl (.inl rfl)) (dgs_cons (dg_nm 6 sc__law_new_row.nd rfl (.inr rfl)) dgs_nil))))
      (dss_cons (ds_par 10 11 rfl sc__law_new_row.nd rfl rfl (by decide) rfl rfl (da_cons (de_add de_int (de_call G__law_draw hr hgd (by rfl) T.g__law_draw T.F__law_draw.kp T.b__law_draw (da_cons (de_var 0) (da_cons de_int da_nil)))) (da_cons (de_ix (de_lst (da_cons de_str (da_cons de_str (da_cons de_str da_nil)))) (de_call G__law_draw hr hgd (by rfl) T.g__law_draw T.F__law_draw.kp T.b__law_draw (da_cons (de_var 0) (da_cons de_int da_nil)))) da_nil)) (by rfl))
      (dss_cons (ds_set 12 (de_ifExp (dt_val (de_var 3)) (de_tup da_nil) (de_call G__law_new_fills hr hgd (by rfl) T.g__law_new_fills T.F__law_new_fills.kp T.b__law_new_fills (da_cons (de_var 0) (da_cons (de_var 1) (da_cons de_int (da_cons (de_var 10) (da_cons (de_var 9) (da_cons (de_var 6) da_nil)))))))) sc__law_new_row.nd rfl (.inl rfl))
      (dss_one (ds_ret (de_tup (da_cons de_str (da_cons (de_var 11) (da_cons (de_var 9) (da_cons (de_var 6) (da_cons (de_var 10) (da_cons (de_var 12) da_nil)))))))))))))))))).settled

theorem ok__law_random_rows (T : Txt K mg) : FG P w K mg base 6 T.f__law_random_rows T.fd__law_random_rows ["_law_reader_here", "_law_most"] F__law_random_rows := by
  have G__law_draw := (ok__law_draw (P := P) (w := w) (base := base) T).mono (by decide : 1 ≤ 5)
  have G__law_new_row := (ok__law_new_row (P := P) (w := w) (base := base) T).mono (by decide : 5 ≤ 5)
  exact (fg_of T.F__law_random_rows sc__law_random_rows fun cdv A outer s H hr hgd => (dss_cons (ds_set 2 (de_ifExp (dt_eq hr (de_call G__law_draw hr hgd (by rfl) T.g__law_draw T.F__law_draw.kp T.b__law_draw (da_cons (de_var 0) (da_cons de_int da_nil))) de_int) (de_new (da_cons (de_tup (da_cons de_str da_nil)) da_nil)) (de_new da_nil)) sc__law_random_rows.nd rfl (.inl rfl))
      (dss_cons (ds_for PassesOwn.never rfl (di_rng1 (by rfl) T.n_range (da_cons (de_call G__law_draw hr hgd (by rfl) T.g__law_draw T.F__law_draw.kp T.b__law_draw (da_cons (de_var 0) (da_cons (de_add (de_var 1) de_int) da_nil))) da_nil)) (dg_nm 3 sc__law_random_rows.nd rfl (.inl rfl)) (dss_one (ds_expr (de_append (de_var 2) (da_cons (de_call G__law_new_row hr hgd (by rfl) T.g__law_new_row T.F__law_new_row.kp T.b__law_new_row (da_cons (de_var 0) (da_cons (de_var 2) da_nil))) da_nil)))))
      (dss_one (ds_ret (de_var 2)))))).settled

theorem ok__law_random_record (T : Txt K mg) : FG P w K mg base 7 T.f__law_random_record T.fd__law_random_record ["_law_reader_here", "_law_most"] F__law_random_record := by
  have G__law_draw := (ok__law_draw (P := P) (w := w) (base := base) T).mono (by decide : 1 ≤ 6)
  have G__law_random_rows := (ok__law_random_rows (P := P) (w := w) (base := base) T).mono (by decide : 6 ≤ 6)
  exact (fg_of T.F__law_random_record sc__law_random_record fun cdv A outer s H hr hgd => (dss_one (ds_ret (de_tup (da_cons (de_ix (de_lst (da_cons de_str (da_cons de_str (da_cons de_str da_nil)))) (de_call G__law_draw hr hgd (by rfl) T.g__law_draw T.F__law_draw.kp T.b__law_draw (da_cons (de_var 0) (da_cons de_int da_nil)))) (da_cons (de_tupleOf (by rfl) T.n_tuple (da_cons (de_call G__law_random_rows hr hgd (by rfl) T.g__law_random_rows T.F__law_random_rows.kp T.b__law_random_rows (da_cons (de_var 0) (da_cons (de_var 1) da_nil))) da_nil)) da_nil)))))).settled

theorem ok__law_fixed_records (T : Txt K mg) : FG P w K mg base 1 T.f__law_fixed_records T.fd__law_fixed_records [] F__law_fixed_records := by
  exact fg_of T.F__law_fixed_records sc__law_fixed_records fun cdv A outer s H hr hgd => (dss_cons (ds_set 0 (de_tup (da_cons (de_tup (da_cons de_str (da_cons de_str (da_cons de_str (da_cons de_int (da_cons de_int (da_cons (de_tup da_nil) da_nil))))))) (da_cons (de_tup (da_cons de_str (da_cons de_str (da_cons de_str (da_cons de_int (da_cons de_int (da_cons (de_tup da_nil) da_nil))))))) da_nil))) sc__law_fixed_records.nd rfl (.inl rfl))
      (dss_cons (ds_set 0 (de_add (de_var 0) (de_tup (da_cons (de_tup (da_cons de_str (da_cons (de_tup (da_cons (de_tup (da_cons de_int (da_cons de_int (da_cons de_non da_nil)))) (da_cons (de_tup (da_cons de_int (da_cons de_int (da_cons de_int da_nil)))) da_nil))) da_nil))) (da_cons (de_tup (da_cons de_str (da_cons (de_tup (da_cons (de_tup (da_cons de_int (da_cons de_int (da_cons de_non da_nil)))) da_nil)) da_nil))) da_nil)))) sc__law_fixed_records.nd rfl (.inl rfl))
      (dss_cons (ds_set 1 (de_tup (da_cons (de_tup (da_cons de_str da_nil)) (da_cons (de_tup (da_cons de_str (da_cons de_str (da_cons de_str (da_cons de_int (da_cons de_int (da_cons (de_tup da_nil) da_nil))))))) (da_cons (de_tup (da_cons de_str (da_cons de_str (da_cons de_str (da_cons de_int (da_cons de_int (da_cons (de_tup da_nil) da_nil))))))) (da_cons (de_tup (da_cons de_str (da_cons (de_tup da_nil) da_nil))) da_nil))))) sc__law_fixed_records.nd rfl (.inl rfl))
      (dss_cons (ds_set 1 (de_add (de_var 1) (de_tup (da_cons (de_tup (da_cons de_str (da_cons de_str (da_cons de_str (da_cons de_int (da_cons de_int (da_cons (de_tup da_nil) da_nil))))))) (da_cons (de_tup (da_cons de_str (da_cons de_int (da_cons (de_tup (da_cons (de_tup (da_cons de_int (da_cons de_int da_nil))) (da_cons (de_tup (da_cons de_int (da_cons de_int da_nil))) da_nil))) da_nil)))) (da_cons (de_tup (da_cons de_str (da_cons de_int da_nil))) da_nil))))) sc__law_fixed_records.nd rfl (.inl rfl))
      (dss_cons (ds_set 1 (de_add (de_var 1) (de_tup (da_cons (de_tup (da_cons de_str (da_cons (de_tup (da_cons (de_tup (da_cons de_int (da_cons de_int (da_cons de_int da_nil)))) (da_cons (de_tup (da_cons de_int (da_cons de_int (da_cons de_non da_nil)))) da_nil))) da_nil))) da_nil))) sc__law_fixed_records.nd rfl (.inl rfl))
      (dss_cons (ds_set 2 (de_tup (da_cons (de_tup (da_cons de_str (da_cons de_str (da_cons de_str (da_cons de_int (da_cons de_int (da_cons (de_tup da_nil) da_nil))))))) (da_cons (de_tup (da_cons de_str (da_cons de_str (da_cons de_str (da_cons de_int (da_cons de_int (da_cons (de_tup (da_cons (de_tup (da_cons de_int (da_cons de_int (da_cons de_non da_nil)))) (da_cons (de_tup (da_cons de_int (da_cons de_int (da_cons de_int da_nil)))) da_nil))) da_nil))))))) da_nil))) sc__law_fixed_records.nd rfl (.inl rfl))
      (dss_cons (ds_set 2 (de_add (de_var 2) (de_tup (da_cons (de_tup (da_cons de_str (da_cons de_str (da_cons de_str (da_cons de_int (da_cons de_int (da_cons (de_tup (da_cons (de_tup (da_cons de_int (da_cons de_int (da_cons de_int da_nil)))) da_nil)) da_nil))))))) (da_cons (de_tup (da_cons de_str (da_cons de_int da_nil))) (da_cons (de_tup (da_cons de_str (da_cons (de_tup (da_cons (de_tup (da_cons de_int (da_cons de_int (da_cons de_non da_nil)))) da_nil)) da_nil))) da_nil))))) sc__law_fixed_records.nd rfl (.inl rfl))
      (dss_one (ds_ret (de_new (da_cons (de_tup (da_cons de_str (da_cons (de_var 0) da_nil))) (da_cons (de_tup (da_cons de_str (da_cons (de_var 1) da_nil))) (da_cons (de_tup (da_cons de_str (da_cons (de_var 2) da_nil))) (da_cons (de_tup (da_cons de_str (da_cons (de_tup da_nil) da_nil))) (da_cons (de_tup (da_cons de_str (da_cons (de_tup (da_cons (de_tup (da_cons de_str da_nil)) da_nil)) da_nil))) da_nil)))))))))))))))

theorem ok__law_groups (T : Txt K mg) : FG P w K mg base 1 T.f__law_groups T.fd__law_groups ["_law_some"] F__law_groups := by
  exact (fg_of T.F__law_groups sc__law_groups fun cdv A outer s H hr hgd => (dss_cons (ds_set 1 (de_lst (da_cons (de_lst da_nil) da_nil)) sc__law_groups.nd rfl (.inl rfl))
      (dss_cons (ds_for PassesOwn.never rfl (di_seq (de_var 0)) (dg_nm 2 sc__law_groups.nd rfl (.inr rfl)) (dss_one (ds_set 1 (de_add (de_var 1) (de_lc rfl sc__law_groups.nd (di_seq (de_var 1)) (blkOk_by (own := [("_law_group", 3)]) (N := N__law_groups) (sc := defScope s__law_groups) (by decide +kernel)) (fun _ _ _ _ _ => (dg_nm 3 sc__law_groups.nd rfl (.inl rfl))) (fun _ _ _ _ _ => dts_nil) (fun _ _ _ _ _ => (de_add (de_var 3) (de_lst (da_cons (de_var 2) da_nil)))))) sc__law_groups.nd rfl (.inl rfl))))
      (dss_one (ds_ret (de_var 1)))))).settled

theorem ok__law_check_view (T : Txt K mg) : FG P w K mg base 9 T.f__law_check_view T.fd__law_check_view ["_law_good", "_law_some", "_law_way"] F__law_check_view := by
  have G_cut := (ok_cut (P := P) (w := w) (base := base) T).mono (by decide : 3 ≤ 8)
  have G_lets_record := (ok_lets_record (P := P) (w := w) (base := base) T).mono (by decide : 8 ≤ 8)
  have G_members_of := (ok_members_of (P := P) (w := w) (base := base) T).mono (by decide : 1 ≤ 8)
  have G_open_at := (ok_open_at (P := P) (w := w) (base := base) T).mono (by decide : 5 ≤ 8)
  have G_order_at := (ok_order_at (P := P) (w := w) (base := base) T).mono (by decide : 4 ≤ 8)
  have G_orders_of := (ok_orders_of (P := P) (w := w) (base := base) T).mono (by decide : 1 ≤ 8)
  have G_prints_of := (ok_prints_of (P := P) (w := w) (base := base) T).mono (by decide : 2 ≤ 8)
  have G_rest_at := (ok_rest_at (P := P) (w := w) (base := base) T).mono (by decide : 5 ≤ 8)
  have G_seen := (ok_seen (P := P) (w := w) (base := base) T).mono (by decide : 3 ≤ 8)
  have G_traded := (ok_traded (P := P) (w := w) (base := base) T).mono (by decide : 4 ≤ 8)
  exact (fg_of T.F__law_check_view sc__law_check_view fun cdv A outer s H hr hgd => (dss_cons (ds_set 3 (de_call G_seen hr hgd (by rfl) T.g_seen T.F_seen.kp T.b_seen (da_cons (de_var 0) (da_cons (de_var 1) da_nil))) sc__law_check_view.nd rfl (.inr rfl))
      (dss_cons (ds_if (PW.pt (dw_or (dt_ne hr (de_call G_lets_record hr hgd (by rfl) T.g_lets_record T.F_lets_record.kp T.b_lets_record (da_cons (de_var 3) da_nil)) (de_call G_lets_record hr hgd (by rfl) T.g_lets_record T.F_lets_record.kp T.b_lets_record (da_cons (de_var 0) da_nil))) (dw_or1 (dt_ne hr (de_ix (de_var 3) de_int) (de_ix (de_var 0) de_int))))) (dss_one (ds_ret de_bl)) dss_nil)
      (dss_cons (ds_if (dt_ne hr (de_call G_prints_of hr hgd (by rfl) T.g_prints_of T.F_prints_of.kp T.b_prints_of (da_cons (de_var 3) da_nil)) (de_call G_prints_of hr hgd (by rfl) T.g_prints_of T.F_prints_of.kp T.b_prints_of (da_cons (de_var 0) da_nil))) (dss_one (ds_ret de_bl)) dss_nil)
      (dss_cons (ds_if (dt_ne hr (de_listOf (by rfl) T.n_list (da_cons (de_call G_members_of hr hgd (by rfl) T.g_members_of T.F_members_of.kp T.b_members_of (da_cons (de_var 3) da_nil)) da_nil)) (de_sortT rfl (by rfl) T.n_sorted (by rfl) T.n_set (de_var 1))) (dss_one (ds_ret de_bl)) dss_nil)
      (dss_cons (ds_set 4 (de_tupleOf (by rfl) T.n_tuple (da_cons (de_lc rfl sc__law_check_view.nd (di_seq (de_call G_orders_of hr hgd (by rfl) T.g_orders_of T.F_orders_of.kp T.b_orders_of (da_cons (de_var 0) da_nil))) (blkOk_by (own := [("_law_n", 5)]) (N := N__law_check_view) (sc := defScope s__law_check_view) (by decide +kernel)) (fun _ _ _ _ _ => (dg_nm 5 sc__law_check_view.nd rfl (.inl rfl))) (fun _ _ _ _ _ => (dts_one (dt_in (de_ix (de_call G_order_at hr hgd (by rfl) T.g_order_at T.F_order_at.kp T.b_order_at (da_cons (de_var 0) (da_cons (de_var 5) da_nil))) de_int) (de_var 1)))) (fun _ _ _ _ _ => (de_var 5))) da_nil)) sc__law_check_view.nd rfl (.inr rfl))
      (dss_cons (ds_if (PW.pt (dw_or (dt_ne hr (de_call G_orders_of hr hgd (by rfl) T.g_orders_of T.F_orders_of.kp T.b_orders_of (da_cons (de_var 3) da_nil)) (de_var 4)) (dw_or1 (dt_ne hr (de_lc rfl sc__law_check_view.nd (di_seq (de_var 4)) (blkOk_by (own := [("_law_n", 5)]) (N := N__law_check_view) (sc := defScope s__law_check_view) (by decide +kernel)) (fun _ _ _ _ _ => (dg_nm 5 sc__law_check_view.nd rfl (.inl rfl))) (fun _ _ _ _ _ => (dts_one (dt_ne hr (de_call G_order_at hr hgd (by rfl) T.g_order_at T.F_order_at.kp T.b_order_at (da_cons (de_var 3) (da_cons (de_var 5) da_nil))) (de_call G_order_at hr hgd (by rfl) T.g_order_at T.F_order_at.kp T.b_order_at (da_cons (de_var 0) (da_cons (de_var 5) da_nil)))))) (fun _ _ _ _ _ => (de_var 5))) (de_lst da_nil))))) (dss_one (ds_ret de_bl)) dss_nil)
      (dss_cons (ds_for PassesOwn.never rfl (di_seq (de_var 4)) (dg_nm 5 sc__law_check_view.nd rfl (.inl rfl)) (dss_one (ds_if (dt_ne hr (de_call G_traded hr hgd (by rfl) T.g_traded T.F_traded.kp T.b_traded (da_cons (de_var 3) (da_cons (de_var 5) da_nil))) (de_call G_traded hr hgd (by rfl) T.g_traded T.F_traded.kp T.b_traded (da_cons (de_var 0) (da_cons (de_var 5) da_nil)))) (dss_one (ds_ret de_bl)) dss_nil)))
      (dss_cons (ds_for PassesOwn.never rfl (di_rng3 (by rfl) T.n_range (da_cons (de_var 2) (da_cons (de_add (de_len (by rfl) T.n_len (da_cons (de_ix (de_var 0) de_int) da_nil)) de_int) (da_cons de_int da_nil)))) (dg_nm 6 sc__law_check_view.nd rfl (.inr rfl)) (dss_cons (ds_if (dt_ne hr (de_callE (dds := [.int 0]) G_open_at hr hgd (by rfl) T.g_open_at T.F_open_at.kp T.p_open_at (fun _ _ _ _ => (.cons (.int _) .nil)) (da_cons (de_var 3) (da_cons (de_var 6) da_nil))) (de_tupleOf (by rfl) T.n_tuple (da_cons (de_lc rfl sc__law_check_view.nd (di_seq (de_callE (dds := [.int 0]) G_open_at hr hgd (by rfl) T.g_open_at T.F_open_at.kp T.p_open_at (fun _ _ _ _ => (.cons (.int _) .nil)) (da_cons (de_var 0) (da_cons (de_var 6) da_nil)))) (blkOk_by (own := [("_law_n", 5)]) (N := N__law_check_view) (sc := defScope s__law_check_view) (by decide +kernel)) (fun _ _ _ _ _ => (dg_nm 5 sc__law_check_view.nd rfl (.inl rfl))) (fun _ _ _ _ _ => (dts_one (dt_in (de_var 5) (de_var 4)))) (fun _ _ _ _ _ => (de_var 5))) da_nil))) (dss_one (ds_ret de_bl)) dss_nil)
      (dss_cons (ds_if (dt_ne hr (de_lc rfl sc__law_check_view.nd (di_seq (de_var 4)) (blkOk_by (own := [("_law_n", 5)]) (N := N__law_check_view) (sc := defScope s__law_check_view) (by decide +kernel)) (fun _ _ _ _ _ => (dg_nm 5 sc__law_check_view.nd rfl (.inl rfl))) (fun _ _ _ _ _ => (dts_one (dt_ne hr (de_callE (dds := [.int 0]) G_rest_at hr hgd (by rfl) T.g_rest_at T.F_rest_at.kp T.p_rest_at (fun _ _ _ _ => (.cons (.int _) .nil)) (da_cons (de_var 3) (da_cons (de_var 5) (da_cons (de_var 6) da_nil)))) (de_callE (dds := [.int 0]) G_rest_at hr hgd (by rfl) T.g_rest_at T.F_rest_at.kp T.p_rest_at (fun _ _ _ _ => (.cons (.int _) .nil)) (da_cons (de_var 0) (da_cons (de_var 5) (da_cons (de_var 6) da_nil))))))) (fun _ _ _ _ _ => (de_var 5))) (de_lst da_nil)) (dss_one (ds_ret de_bl)) dss_nil)
      (dss_one (ds_if (PW.pt (dw_and (dt_lt (de_var 6) (de_len (by rfl) T.n_len (da_cons (de_ix (de_var 0) de_int) da_nil))) (dw_and1 (dt_ne hr (de_ix (de_ix (de_call G_cut hr hgd (by rfl) T.g_cut T.F_cut.kp T.b_cut (da_cons (de_var 3) (da_cons (de_add (de_var 6) de_int) da_nil))) de_int) (de_var 6)) (de_ix (de_ix (de_var 3) de_int) (de_var 6)))))) (dss_one (ds_ret de_bl)) dss_nil)))))
      (dss_one (ds_ret (de_eq hr (de_call G_seen hr hgd (by rfl) T.g_seen T.F_seen.kp T.b_seen (da_cons (de_var 3) (da_cons (de_var 1) da_nil))) (de_var 3))))))))))))).settled

theorem ok__law_check_beginnings (T : Txt K mg) : FG P w K mg base 4 T.f__law_check_beginnings T.fd__law_check_beginnings ["_law_good", "_law_some", "_law_way"] F__law_check_beginnings := by
  have G_cut := (ok_cut (P := P) (w := w) (base := base) T).mono (by decide : 3 ≤ 3)
  have G_members_of := (ok_members_of (P := P) (w := w) (base := base) T).mono (by decide : 1 ≤ 3)
  have G_seen := (ok_seen (P := P) (w := w) (base := base) T).mono (by decide : 3 ≤ 3)
  exact (fg_of T.F__law_check_beginnings sc__law_check_beginnings fun cdv A outer s H hr hgd => (dss_cons (ds_for PassesOwn.never rfl (di_rng3 (by rfl) T.n_range (da_cons (de_var 2) (da_cons (de_add (de_len (by rfl) T.n_len (da_cons (de_ix (de_var 0) de_int) da_nil)) de_int) (da_cons de_int da_nil)))) (dg_nm 3 sc__law_check_beginnings.nd rfl (.inl rfl)) (dss_cons (ds_set 4 (de_call G_cut hr hgd (by rfl) T.g_cut T.F_cut.kp T.b_cut (da_cons (de_var 0) (da_cons (de_var 3) da_nil))) sc__law_check_beginnings.nd rfl (.inr rfl))
      (dss_cons (ds_set 5 (de_tupleOf (by rfl) T.n_tuple (da_cons (de_lc rfl sc__law_check_beginnings.nd (di_seq (de_var 1)) (blkOk_by (own := [("_law_name", 6)]) (N := N__law_check_beginnings) (sc := defScope s__law_check_beginnings) (by decide +kernel)) (fun _ _ _ _ _ => (dg_nm 6 sc__law_check_beginnings.nd rfl (.inl rfl))) (fun _ _ _ _ _ => (dts_one (dt_in (de_var 6) (de_call G_members_of hr hgd (by rfl) T.g_members_of T.F_members_of.kp T.b_members_of (da_cons (de_var 4) da_nil))))) (fun _ _ _ _ _ => (de_var 6))) da_nil)) sc__law_check_beginnings.nd rfl (.inl rfl))
      (dss_one (ds_if (dt_ne hr (de_call G_seen hr hgd (by rfl) T.g_seen T.F_seen.kp T.b_seen (da_cons (de_var 4) (da_cons (de_var 5) da_nil))) (de_call G_cut hr hgd (by rfl) T.g_cut T.F_cut.kp T.b_cut (da_cons (de_call G_seen hr hgd (by rfl) T.g_seen T.F_seen.kp T.b_seen (da_cons (de_var 0) (da_cons (de_var 1) da_nil))) (da_cons (de_var 3) da_nil)))) (dss_one (ds_ret de_bl)) dss_nil)))))
      (dss_one (ds_ret de_bl)))).settled

theorem ok_law (T : Txt K mg) : FG P w K mg base 10 T.f_law T.fd_law ["_law_script"] F_law := by
  have G__law_check_beginnings := (ok__law_check_beginnings (P := P) (w := w) (base := base) T).mono (by decide : 4 ≤ 9)
  have G__law_check_view := (ok__law_check_view (P := P) (w := w) (base := base) T).mono (by decide : 9 ≤ 9)
  have G__law_draw := (ok__law_draw (P := P) (w := w) (base := base) T).mono (by decide : 1 ≤ 9)
  have G__law_fixed_records := (ok__law_fixed_records (P := P) (w := w) (base := base) T).mono (by decide : 1 ≤ 9)
  have G__law_groups := (ok__law_groups (P := P) (w := w) (base := base) T).mono (by decide : 1 ≤ 9)
  have G__law_random_record := (ok__law_random_record (P := P) (w := w) (base := base) T).mono (by decide : 7 ≤ 9)
  have G__law_reader := (ok__law_reader (P := P) (w := w) (base := base) T).mono (by decide : 1 ≤ 9)
  have G_lets_record := (ok_lets_record (P := P) (w := w) (base := base) T).mono (by decide : 8 ≤ 9)
  have G_members_of := (ok_members_of (P := P) (w := w) (base := base) T).mono (by decide : 1 ≤ 9)
  have G_seen := (ok_seen (P := P) (w := w) (base := base) T).mono (by decide : 3 ≤ 9)
  have G_with_rule := (ok_with_rule (P := P) (w := w) (base := base) T).mono (by decide : 2 ≤ 9)
  exact (fg_of T.F_law sc_law fun cdv A outer s H hr hgd => (dss_cons (ds_set 1 (de_call G__law_reader hr hgd (by rfl) T.g__law_reader T.F__law_reader.kp T.b__law_reader (da_cons (de_var 0) da_nil)) sc_law.nd rfl (.inl rfl))
      (dss_cons (ds_set 2 (de_call0 G__law_fixed_records hr hgd (by rfl) T.g__law_fixed_records T.F__law_fixed_records.kp T.b__law_fixed_records) sc_law.nd rfl (.inl rfl))
      (dss_cons (ds_for PassesOwn.never rfl (di_rng1 (by rfl) T.n_range (da_cons de_int da_nil)) (dg_nm 3 sc_law.nd rfl (.inl rfl)) (dss_one (ds_expr (de_append (de_var 2) (da_cons (de_call G__law_random_record hr hgd (by rfl) T.g__law_random_record T.F__law_random_record.kp T.b__law_random_record (da_cons (de_var 1) (da_cons de_int da_nil))) da_nil)))))
      (dss_cons (ds_for PassesOwn.never rfl (di_seq (de_var 2)) (dg_nm 4 sc_law.nd rfl (.inl rfl)) (dss_cons (ds_set 5 (de_listOf (by rfl) T.n_list (da_cons (de_call G_members_of hr hgd (by rfl) T.g_members_of T.F_members_of.kp T.b_members_of (da_cons (de_var 4) da_nil)) da_nil)) sc_law.nd rfl (.inl rfl))
      (dss_cons (ds_if (dt_ne hr (de_call G_seen hr hgd (by rfl) T.g_seen T.F_seen.kp T.b_seen (da_cons (de_var 4) (da_cons (de_tupleOf (by rfl) T.n_tuple (da_cons (de_var 5) da_nil)) da_nil))) (de_var 4)) (dss_one (ds_ret de_bl)) dss_nil)
      (dss_cons (ds_if (dt_ne hr (de_call G_with_rule hr hgd (by rfl) T.g_with_rule T.F_with_rule.kp T.b_with_rule (da_cons (de_call G_with_rule hr hgd (by rfl) T.g_with_rule T.F_with_rule.kp T.b_with_rule (da_cons (de_var 4) (da_cons de_str da_nil))) (da_cons (de_ix (de_var 4) de_int) da_nil))) (de_var 4)) (dss_one (ds_ret de_bl)) dss_nil)
      (dss_cons (ds_for PassesOwn.never rfl (di_seq (de_call G__law_groups hr hgd (by rfl) T.g__law_groups T.F__law_groups.kp T.b__law_groups (da_cons (de_var 5) da_nil))) (dg_nm 6 sc_law.nd rfl (.inl rfl)) (dss_cons (ds_set 7 (de_call G__law_draw hr hgd (by rfl) T.g__law_draw T.F__law_draw.kp T.b__law_draw (da_cons (de_var 1) (da_cons de_int da_nil))) sc_law.nd rfl (.inl rfl))
      (dss_cons (ds_if (dt_not (dt_val (de_call G__law_check_view hr hgd (by rfl) T.g__law_check_view T.F__law_check_view.kp T.b__law_check_view (da_cons (de_var 4) (da_cons (de_tupleOf (by rfl) T.n_tuple (da_cons (de_var 6) da_nil)) (da_cons (de_var 7) da_nil)))))) (dss_one (ds_ret de_bl)) dss_nil)
      (dss_cons (ds_if (dt_not (dt_val (de_call G__law_check_beginnings hr hgd (by rfl) T.g__law_check_beginnings T.F__law_check_beginnings.kp T.b__law_check_beginnings (da_cons (de_var 4) (da_cons (de_tupleOf (by rfl) T.n_tuple (da_cons (de_var 6) da_nil)) (da_cons (de_var 7) da_nil)))))) (dss_one (ds_ret de_bl)) dss_nil)
      (dss_cons (ds_for PassesOwn.never rfl (di_seq (de_slice3 (de_call G__law_groups hr hgd (by rfl) T.g__law_groups T.F__law_groups.kp T.b__law_groups (da_cons (de_var 6) da_nil)) (do_some (de_var 7)) do_none (do_some de_int))) (dg_nm 8 sc_law.nd rfl (.inl rfl)) (dss_one (ds_if (dt_ne hr (de_call G_seen hr hgd (by rfl) T.g_seen T.F_seen.kp T.b_seen (da_cons (de_call G_seen hr hgd (by rfl) T.g_seen T.F_seen.kp T.b_seen (da_cons (de_var 4) (da_cons (de_tupleOf (by rfl) T.n_tuple (da_cons (de_var 6) da_nil)) da_nil))) (da_cons (de_tupleOf (by rfl) T.n_tuple (da_cons (de_var 8) da_nil)) da_nil))) (de_call G_seen hr hgd (by rfl) T.g_seen T.F_seen.kp T.b_seen (da_cons (de_var 4) (da_cons (de_tupleOf (by rfl) T.n_tuple (da_cons (de_var 8) da_nil)) da_nil)))) (dss_one (ds_ret de_bl)) dss_nil)))
      (dss_one (ds_if (dt_ne hr (de_call G_with_rule hr hgd (by rfl) T.g_with_rule T.F_with_rule.kp T.b_with_rule (da_cons (de_call G_seen hr hgd (by rfl) T.g_seen T.F_seen.kp T.b_seen (da_cons (de_var 4) (da_cons (de_tupleOf (by rfl) T.n_tuple (da_cons (de_var 6) da_nil)) da_nil))) (da_cons de_str da_nil))) (de_call G_seen hr hgd (by rfl) T.g_seen T.F_seen.kp T.b_seen (da_cons (de_call G_with_rule hr hgd (by rfl) T.g_with_rule T.F_with_rule.kp T.b_with_rule (da_cons (de_var 4) (da_cons de_str da_nil))) (da_cons (de_tupleOf (by rfl) T.n_tuple (da_cons (de_var 6) da_nil)) da_nil)))) (dss_one (ds_ret de_bl)) dss_nil)))))))
      (dss_one (ds_for PassesOwn.never rfl (di_seq (de_tup (da_cons de_str (da_cons de_str (da_cons de_str da_nil))))) (dg_nm 9 sc_law.nd rfl (.inl rfl)) (dss_cons (ds_set 10 (de_call G_with_rule hr hgd (by rfl) T.g_with_rule T.F_with_rule.kp T.b_with_rule (da_cons (de_var 4) (da_cons (de_var 9) da_nil))) sc_law.nd rfl (.inl rfl))
      (dss_one (ds_if (PW.pt (dw_or (dt_ne hr (de_call G_lets_record hr hgd (by rfl) T.g_lets_record T.F_lets_record.kp T.b_lets_record (da_cons (de_var 10) da_nil)) (de_len (by rfl) T.n_len (da_cons (de_ix (de_var 4) de_int) da_nil))) (dw_or (dt_ne hr (de_ix (de_var 10) de_int) (de_ix (de_var 4) de_int)) (dw_or1 (dt_ne hr (de_ix (de_var 10) de_int) (de_var 9)))))) (dss_one (ds_ret de_bl)) dss_nil))))))))))
      (dss_one (ds_ret de_bl))))))).settled

end
end K7
set_option Elab.async false
set_option linter.all false
set_option maxRecDepth 100000
set_option maxHeartbeats 4000000
namespace K7
open PySem PySem.Spec PyProof.Rows L2 FS Gn
section
variable {S : Sto}
abbrev strsL (ms : List Str) : D := .lst (ms.map D.str)
theorem closed_groups (n : Nat) (l : List (List Str)) : closedL n (l.map strsL) = true := closedL_of _ _ fun x _ => by simp only [FS.closed]; exact closed_strs _ _
theorem groups_acc (l : List Str) : ∀ acc : List (List Str), (l.foldl (fun acc x => acc ++ acc.map (· ++ [x])) acc).length = 2 ^ l.length * acc.length := by
  induction l with
  | nil => intro acc; simp
  | cons x l ih =>
    intro acc
    rw [List.foldl_cons, ih, List.length_append, List.length_map, List.length_cons, Nat.pow_succ, Nat.mul_assoc, Nat.two_mul]
theorem run_groups (c : Clo S) {ms : List Str} (hl : ms.length ≤ 5) : F__law_groups [strsL ms] S = some (.lst ((groupsL ms).map strsL), S) := by
  refine run_same c rfl (by simp only [FS.closed]; exact closed_groups _ _) ?_
  unfold b__law_groups
  refine w_mid (fun ρ1 S1 => ρ1 = [some (strsL ms), some (.lst (([[]] : List (List Str)).map strsL)), none, none] ∧ S1 = S) ?_ ?_
  · walk_at "stps"
    exact ⟨rfl, rfl, rfl⟩
  rintro ρ1 S1 ⟨rfl, e⟩
  subst S1
  (with_reducible refine w_seq ?_)
  refine w_fors (S1 := S) D.str ms none (fun pre ρ S1 => ∃ x2 x3, ρ = [some (strsL ms), some (.lst ((groupsL pre).map strsL)), x2, x3] ∧ S1 = S) (w_seqL ?_) ⟨_, _, rfl, rfl⟩ ?_ ?_
  · walk_at "stps"
    exact ⟨rfl, rfl⟩
  · rintro pre x post e ρ S1 ⟨x2, x3, rfl, eS⟩
    subst S1
    have hpl : pre.length ≤ 4 := by
      have := congrArg List.length e
      rw [List.length_append, List.length_cons] at this
      omega
    refine ⟨_, rfl, ?_⟩
    walk_at "stps"
    refine w_lcsel strsL (fun _ => true) (fun g => strsL (g ++ [x])) (groupsL pre) none (w_seqL ?_) rfl (fun g hg => ?_) ?_
    · walk_at "stps"
      exact ⟨rfl, rfl⟩
    · have := (groups_sub g hg).2
      refine ⟨_, rfl, ?_, fun _ => ?_⟩
      · walk_at "stps"
        exact ⟨rfl, rfl⟩
      · walk_at "stps"
        refine w1 (addO_lm rfl rfl ?_) ?_
        · rw [List.length_map, sL]
          simp only [List.length_cons, List.length_nil]
          omega
        · refine ⟨?_, rfl⟩
          simp only [strsL, List.map_append, List.map_cons, List.map_nil]
    · rw [List.filter_eq_self.mpr (fun _ _ => rfl)]
      have hg := groups_len pre
      have hp : 2 ^ pre.length ≤ 2 ^ 4 := Nat.pow_le_pow_right (by decide) hpl
      refine w1 (addO_lm rfl rfl ?_) ?_
      · rw [List.length_map, List.length_map, sL, hg]
        omega
      · refine ⟨.inl rfl, rfl, some (.str x), x3, ?_, rfl⟩
        rw [groups_snoc, List.map_append, List.map_map]
        rfl
  · rintro ρ' S' ⟨x2, x3, rfl, rfl⟩
    walk_at "stps"
    exact ⟨rfl, rfl⟩
theorem mem_ord {g : Rec} {ms : List Str} {k : Nat} (h : k ∈ ownL g.rows ms) : k ∈ ordersL g.rows := ord_mem.mpr (ownL_mem.mp h).1
theorem own_bd {rows : List Gn.Row} {ms : List Str} (h : rows.length ≤ 31) : (∀ k ∈ ownL rows ms, k < 1000) ∧ (ownL rows ms).length ≤ 1000 := by
  obtain ⟨h1, h2⟩ := ordersL_bd (rows := rows) (by omega)
  exact ⟨fun k hk => h1 k (List.mem_filter.mp hk).1, Nat.le_trans (List.length_filter_le _ _) h2⟩
theorem seen_with {g : Rec} {ms : List Str} (h : RecGood g) : RecGood ⟨g.rule, viewL g.rows ms⟩ := ⟨h.rule, h.rows.view ms⟩
abbrev vw (g : Rec) (ms : List Str) : Rec := ⟨g.rule, viewL g.rows ms⟩
abbrev cv (g : Rec) (ms : List Str) (way : Nat) (x3 x4 x5 x6 : Option D) : Rho := [some g.d, some (.tup (ms.map D.str)), some (.int way), x3, x4, x5, x6]
theorem nil_eq (S : Sto) : eqO true S (.lst []) (.lst []) = some (.bl false) := eqO_nil true NiceL.nil (by decide)
theorem run_check_view (c : Clo S) {g : Rec} (h : RecGood g) {ms : List Str} (hm : ∀ x ∈ ms, x ∈ memsL g.rows) (hl : ms.length ≤ 5) {way : Nat} (hw : way ≤ 2) : F__law_check_view [g.d, .tup (ms.map D.str), .int way] S = some (.bl true, S) := by
  have hfew := h.rows.few
  have hv := seen_with (ms := ms) h
  have hvl : (vw g ms).rows.length = g.rows.length := view_len
  have hwd : ∀ x ∈ sortT (setT ms), Wd x := fun x hx => nm_wd (mems_nm h.rows (hm x (sortT_mem.mp hx)))
  have hsl : (sortT (setT ms)).length ≤ 40 := by rw [(sortT_perm _).length_eq]; have := setT_len ms; omega
  obtain ⟨hb1, hb2⟩ := own_bd (ms := ms) hfew
  refine run_same c rfl rfl ?_
  unfold b__law_check_view
  refine w_mid (fun ρ1 S1 => ρ1 = cv g ms way (some (vw g ms).d) none none none ∧ S1 = S) ?_ ?_
  · walk_at "stps"
    refine w2 (run_seen c (by omega) hm) ?_
    exact ⟨rfl, rfl, rfl⟩
  rintro ρ1 S1 ⟨rfl, e⟩
  subst S1
  refine w_mid (fun ρ1 S1 => ρ1 = cv g ms way (some (vw g ms).d) none none none ∧ S1 = S) ?_ ?_
  · walk_at "stps"
    refine w2 (run_lets_record c hv.rule hv.rows) ?_
    walk_at "stps"
    refine w2 (run_lets_record c h.rule h.rows) ?_
    rw [hvl]
    walk_at "stps"
    refine br_of true (by simp) ?_
    walk_at "stps"
    exact ⟨rfl, rfl, rfl⟩
  rintro ρ1 S1 ⟨rfl, e⟩
  subst S1
  refine w_mid (fun ρ1 S1 => ρ1 = cv g ms way (some (vw g ms).d) none none none ∧ S1 = S) ?_ ?_
  · walk_at "stps"
    refine w2 (run_prints_of c (by rw [hvl]; omega) hv.rows.ok) ?_
    walk_at "stps"
    refine w2 (run_prints_of c (by omega) h.rows.ok) ?_
    rw [show printsL (vw g ms).rows = printsL g.rows from view_prints]
    refine w1 (prints_eq true h.rows.ok (by omega)) ?_
    walk_at "stps"
    exact ⟨rfl, rfl, rfl⟩
  rintro ρ1 S1 ⟨rfl, e⟩
  subst S1
  refine w_mid (fun ρ1 S1 => ρ1 = cv g ms way (some (vw g ms).d) none none none ∧ S1 = S) ?_ ?_
  · walk_at "stps"
    refine w2 (run_members_of c (by rw [hvl]; omega)) ?_
    walk_at "stps"
    rw [show memsL (vw g ms).rows = sortT (setT ms) from view_mems hm]
    refine w1 (a := strsL (sortT (setT ms))) rfl ?_
    refine w2 (a := strsL (sortT (setT ms))) (S := S) ?_ ?_
    · unfold cSortT cVar
      simp only [List.getElem?_cons_succ, List.getElem?_cons_zero, strsD_strs]
      rw [if_pos (by omega)]
    refine w1 (strs_eq true hwd hsl) ?_
    walk_at "stps"
    exact ⟨rfl, rfl, rfl⟩
  rintro ρ1 S1 ⟨rfl, e⟩
  subst S1
  refine w_mid (fun ρ1 S1 => ρ1 = cv g ms way (some (vw g ms).d) (some (.tup (natsD (ownL g.rows ms)))) none none ∧ S1 = S) ?_ ?_
  · walk_at "stps"
    refine w_lcsel (fun (k : Nat) => .int k) (fun k => ms.contains (nameOf (rowAt g.rows k))) (fun (k : Nat) => .int k) (ordersL g.rows) none (w_seqT ?_) rfl (fun k hk => ?_) ?_
    · walk_at "stps"
      exact w2 (run_orders_of c g) ⟨rfl, rfl⟩
    · refine ⟨_, rfl, ?_, fun _ => ?_⟩
      · walk_at "stps"
        refine w2 (run_order_at c hk) ?_
        unfold ordD
        walk_at "stps"
        refine w1 (in_strs _ _ _) ?_
        walk_at "stps"
        exact ⟨rfl, rfl⟩
      · walk_at "stps"
        exact ⟨rfl, rfl⟩
    · walk_at "stps"
      refine w1 (tupleO_sq rfl) ?_
      exact ⟨rfl, rfl, rfl⟩
  rintro ρ1 S1 ⟨rfl, e⟩
  subst S1
  have hvo : ordersL (vw g ms).rows = ownL g.rows ms := view_orders
  have hmem : ∀ k ∈ ownL g.rows ms, k ∈ ordersL (vw g ms).rows := fun k hk => by rw [hvo]; exact hk
  have nofil : ∀ (l : List Nat), l.filter (fun _ => false) = [] := fun l => List.filter_eq_nil_iff.mpr fun x _ => Bool.false_ne_true
  refine w_mid (fun ρ1 S1 => ρ1 = cv g ms way (some (vw g ms).d) (some (.tup (natsD (ownL g.rows ms)))) none none ∧ S1 = S) ?_ ?_
  · walk_at "stps"
    refine w2 (run_orders_of c _) ?_
    walk_at "stps"
    rw [hvo]
    refine w1 (nats_eq true hb1 hb2) ?_
    walk_at "stps"
    refine w_lcsel (fun (k : Nat) => .int k) (fun _ => false) (fun (k : Nat) => .int k) (ownL g.rows ms) none (w_seqT ?_) rfl (fun k hk => ?_) ?_
    · walk_at "stps"
      exact ⟨rfl, rfl⟩
    · refine ⟨_, rfl, ?_, fun e => by cases e⟩
      have e1 : ordD (rowAt (vw g ms).rows k) = ordD (rowAt g.rows k) := by
        have ho := ownB_own.mpr hk
        unfold ordD
        show D.tup [.str (nameOf (rowAt (seenL (ownB g.rows ms) g.rows) k)), .str (sideOf (rowAt (seenL (ownB g.rows ms) g.rows) k)), .int (priceOf (rowAt (seenL (ownB g.rows ms) g.rows) k)), .int (Gn.sizeOf (rowAt (seenL (ownB g.rows ms) g.rows) k))] = _
        rw [Gn.seen_at, seen_name ho, seen_side ho, seen_price ho, seen_size ho]
      have hk1 := mem_ord (ms := ms) hk
      walk_at "stps"
      refine w2 (run_order_at c (hmem k hk)) ?_
      walk_at "stps"
      refine w2 (run_order_at c hk1) ?_
      rw [e1]
      refine w1 (ord_eq true (h.rows.ok _ (row_mem (rowAt_ord (ord_mem.mp hk1)))) (ord_mem.mp hk1)) ?_
      walk_at "stps"
      exact ⟨rfl, rfl⟩
    · rw [nofil]
      walk_at "stps"
      refine w1 (nil_eq _) ?_
      walk_at "stps"
      exact ⟨rfl, rfl, rfl⟩
  rintro ρ1 S1 ⟨rfl, e⟩
  subst S1
  refine w_mid (fun ρ1 S1 => ∃ x5, ρ1 = cv g ms way (some (vw g ms).d) (some (.tup (natsD (ownL g.rows ms)))) x5 none ∧ S1 = S) ?_ ?_
  · refine w_fors (S1 := S) (fun (k : Nat) => .int k) (ownL g.rows ms) none (fun pre ρ S1 => ∃ x5, ρ = cv g ms way (some (vw g ms).d) (some (.tup (natsD (ownL g.rows ms)))) x5 none ∧ S1 = S) (w_seqT ?_) ⟨_, rfl, rfl⟩ ?_ ?_
    · walk_at "stps"
      exact ⟨rfl, rfl⟩
    · rintro pre k post e ρ S1 ⟨x5, rfl, eS⟩
      subst S1
      have hk : k ∈ ownL g.rows ms := by rw [e]; simp
      refine ⟨_, rfl, ?_⟩
      walk_at "stps"
      refine w2 (run_traded c (hmem k hk) (by rw [hvl]; omega)) ?_
      walk_at "stps"
      refine w2 (run_traded c (mem_ord hk) (by omega)) ?_
      have e1 : Gn.sizeOf (rowAt (vw g ms).rows k) - rstL (vw g ms).rows k (vw g ms).rows.length 0 = Gn.sizeOf (rowAt g.rows k) - rstL g.rows k g.rows.length 0 := by
        rw [hvl, show rstL (vw g ms).rows k g.rows.length 0 = rstL g.rows k g.rows.length 0 from view_rst hk]
        show Gn.sizeOf (rowAt (seenL (ownB g.rows ms) g.rows) k) - _ = _
        rw [Gn.seen_at, seen_size (ownB_own.mpr hk)]
      rw [e1]
      walk_at "stps"
      exact ⟨.inl rfl, rfl, _, rfl, rfl⟩
    · rintro ρ' S' ⟨x5, rfl, rfl⟩
      exact ⟨rfl, _, rfl, rfl⟩
  rintro ρ1 S1 ⟨x5, rfl, e⟩
  subst S1
  refine w_mid (fun ρ1 S1 => ∃ x5 x6, ρ1 = cv g ms way (some (vw g ms).d) (some (.tup (natsD (ownL g.rows ms)))) x5 x6 ∧ S1 = S) ?_ ?_
  · obtain ⟨l, hlt, hsrc⟩ := src_rng3 (S := S) (r := (cCons (cVar 2) (cCons (cBin addO (cOp lenO (cCons (cBin ixO (cVar 0) (cC (.int 1))) cNil)) (cC (.int 1))) (cCons (cC (.int 3)) cNil)))) (ρ := cv g ms way (some (vw g ms).d) (some (.tup (natsD (ownL g.rows ms)))) x5 none) (a := way) (b := g.rows.length + 1) (by
      walk_at "stps"
      rw [List.length_map]
      exact ⟨rfl, rfl⟩) (by omega) (by omega)
    refine w_fors (S1 := S) (fun (k : Nat) => .int k) l none (fun pre ρ S1 => ∃ x5 x6, ρ = cv g ms way (some (vw g ms).d) (some (.tup (natsD (ownL g.rows ms)))) x5 x6 ∧ S1 = S) hsrc ⟨_, _, rfl, rfl⟩ ?_ ?_
    · rintro pre t post e ρ S1 ⟨x5, x6, rfl, eS⟩
      subst S1
      have ht : t ≤ g.rows.length := by have := hlt t (by rw [e]; simp); omega
      have htv : t ≤ (vw g ms).rows.length := by rw [hvl]; exact ht
      refine ⟨_, rfl, ?_⟩
      refine w_mid (fun ρ1 S1 => ρ1 = cv g ms way (some (vw g ms).d) (some (.tup (natsD (ownL g.rows ms)))) x5 (some (.int t)) ∧ S1 = S) ?_ ?_
      · (with_reducible refine w_ifs ?_)
        (with_reducible refine w_test ?_)
        (with_reducible refine w_bin ?_)
        refine w_callD ?_
        walk_at "stps"
        refine w2 (run_open_at (i := 0) c htv (.inl rfl) (by rw [hvl]; omega) hv.rows.ok) ?_
        (with_reducible refine w_op ?_)
        (with_reducible refine w_cons ?_)
        refine w_lcsel (fun (k : Nat) => .int k) (fun k => (ownL g.rows ms).contains k) (fun (k : Nat) => .int k) (opensL g.rows t 0) none (w_seqT ?_) rfl (fun k hk => ?_) ?_
        · refine w_callD ?_
          walk_at "stps"
          refine w2 (run_open_at (i := 0) c ht (.inl rfl) (by omega) h.rows.ok) ?_
          exact ⟨rfl, rfl⟩
        · refine ⟨_, rfl, ?_, fun _ => ?_⟩
          · walk_at "stps"
            refine w1 (in_natsT _ _ _) ?_
            walk_at "stps"
            rw [memB_nat]
            exact ⟨rfl, rfl⟩
          · walk_at "stps"
            exact ⟨rfl, rfl⟩
        · walk_at "stps"
          refine w1 (tupleO_sq rfl) ?_
          rw [show opensL (vw g ms).rows t 0 = (opensL g.rows t 0).filter fun k => (ownL g.rows ms).contains k from view_opens]
          refine w1 (nats_eq true ?_ ?_) ?_
          · intro k hk
            exact hb1 k (List.contains_iff_mem.mp (List.mem_filter.mp hk).2)
          · refine Nat.le_trans (List.length_filter_le _ _) (Nat.le_trans (List.length_filter_le _ _) (ordersL_bd (by omega)).2)
          walk_at "stps"
          exact ⟨rfl, rfl, rfl⟩
      rintro ρ1 S1 ⟨rfl, e⟩
      subst S1
      refine w_mid (fun ρ1 S1 => ρ1 = cv g ms way (some (vw g ms).d) (some (.tup (natsD (ownL g.rows ms)))) x5 (some (.int t)) ∧ S1 = S) ?_ ?_
      · walk_at "stps"
        refine w_lcsel (fun (k : Nat) => .int k) (fun _ => false) (fun (k : Nat) => .int k) (ownL g.rows ms) none (w_seqT ?_) rfl (fun k hk => ?_) ?_
        · walk_at "stps"
          exact ⟨rfl, rfl⟩
        · refine ⟨_, rfl, ?_, fun e => by cases e⟩
          (with_reducible refine w_test ?_)
          (with_reducible refine w_bin ?_)
          refine w_callD ?_
          walk_at "stps"
          refine w2 (run_rest_at (i := 0) c (hmem k hk) htv (.inl rfl) (by rw [hvl]; omega)) ?_
          refine w_callD ?_
          walk_at "stps"
          refine w2 (run_rest_at (i := 0) c (mem_ord hk) ht (.inl rfl) (by omega)) ?_
          rw [show rstL (vw g ms).rows k t 0 = rstL g.rows k t 0 from view_rst hk]
          walk_at "stps"
          exact ⟨by simp, rfl⟩
        · rw [nofil]
          walk_at "stps"
          refine w1 (nil_eq _) ?_
          walk_at "stps"
          exact ⟨rfl, rfl, rfl⟩
      rintro ρ1 S1 ⟨rfl, e⟩
      subst S1
      walk_at "stps"
      rw [List.length_map]
      refine ⟨fun hlt2 => ?_, fun _ => ?_⟩
      · have h2 : t < g.rows.length := by have := of_decide_eq_true hlt2; omega
        have h2v : t < (vw g ms).rows.length := by rw [hvl]; exact h2
        walk_at "stps"
        have e2 : F_cut [(vw g ms).d, .int ((t : Int) + 1)] S = _ := run_cut (t := t + 1) c (by omega)
        refine w2 e2 ?_
        walk_at "stps"
        refine w1 (at_row (rows := (vw g ms).rows.take (t + 1)) (by rw [List.length_take]; omega)) ?_
        walk_at "stps"
        refine w1 (at_row h2v) ?_
        rw [take_at (Nat.lt_succ_self t)]
        refine w1 (row_eq true (hv.rows.ok _ (row_mem h2v))) ?_
        walk_at "stps"
        exact ⟨.inl rfl, rfl, _, _, rfl, rfl⟩
      · walk_at "stps"
        exact ⟨.inl rfl, rfl, _, _, rfl, rfl⟩
    · rintro ρ' S' ⟨x5, x6, rfl, rfl⟩
      exact ⟨rfl, _, _, rfl, rfl⟩
  rintro ρ1 S1 ⟨x5, x6, rfl, e⟩
  subst S1
  walk_at "stps"
  refine w2 (run_seen (g := vw g ms) (ms := ms) c (by rw [hvl]; omega) fun x hx => ?_) ?_
  · rw [show memsL (vw g ms).rows = sortT (setT ms) from view_mems hm]
    exact sortT_mem.mpr hx
  walk_at "stps"
  rw [show viewL (vw g ms).rows ms = viewL g.rows ms from view_view fun x hx => hx]
  refine w1 (rec_eq false hv) ?_
  exact ⟨rfl, rfl⟩
theorem run_check_beginnings (c : Clo S) {g : Rec} (h : RecGood g) {ms : List Str} (hm : ∀ x ∈ ms, x ∈ memsL g.rows) {way : Nat} (hw : way ≤ 2) : F__law_check_beginnings [g.d, .tup (ms.map D.str), .int way] S = some (.bl true, S) := by
  have hfew := h.rows.few
  have hv := seen_with (ms := ms) h
  refine run_same c rfl rfl ?_
  unfold b__law_check_beginnings
  refine w_mid (fun ρ1 S1 => ∃ x3 x4 x5 x6, ρ1 = cv g ms way x3 x4 x5 x6 ∧ S1 = S) ?_ ?_
  · obtain ⟨l, hlt, hsrc⟩ := src_rng3 (S := S) (r := (cCons (cVar 2) (cCons (cBin addO (cOp lenO (cCons (cBin ixO (cVar 0) (cC (.int 1))) cNil)) (cC (.int 1))) (cCons (cC (.int 3)) cNil)))) (ρ := cv g ms way none none none none) (a := way) (b := g.rows.length + 1) (by
      walk_at "stps"
      rw [List.length_map]
      exact ⟨rfl, rfl⟩) (by omega) (by omega)
    refine w_fors (S1 := S) (fun (k : Nat) => .int k) l none (fun pre ρ S1 => ∃ x3 x4 x5 x6, ρ = cv g ms way x3 x4 x5 x6 ∧ S1 = S) hsrc ⟨_, _, _, _, rfl, rfl⟩ ?_ ?_
    · rintro pre t post e ρ S1 ⟨x3, x4, x5, x6, rfl, eS⟩
      subst S1
      have ht : t ≤ g.rows.length := by have := hlt t (by rw [e]; simp); omega
      have htl : (g.rows.take t).length ≤ 40 := by rw [List.length_take]; omega
      refine ⟨_, rfl, ?_⟩
      walk_at "stps"
      refine w2 (run_cut c ht) ?_
      walk_at "stps"
      refine w_lcsel D.str (fun x => (memsL (g.rows.take t)).contains x) D.str ms none (w_seqT ?_) rfl (fun x hx => ?_) ?_
      · walk_at "stps"
        exact ⟨rfl, rfl⟩
      · refine ⟨_, rfl, ?_, fun _ => ?_⟩
        · walk_at "stps"
          refine w2 (run_members_of (g := ⟨g.rule, g.rows.take t⟩) c htl) ?_
          refine w1 (in_strs _ _ _) ?_
          walk_at "stps"
          exact ⟨rfl, rfl⟩
        · walk_at "stps"
          exact ⟨rfl, rfl⟩
      · walk_at "stps"
        refine w1 (tupleO_sq rfl) ?_
        walk_at "stps"
        refine w2 (run_seen (g := ⟨g.rule, g.rows.take t⟩) c htl fun x hx => List.contains_iff_mem.mp (List.mem_filter.mp hx).2) ?_
        walk_at "stps"
        refine w2 (run_seen c (by omega) hm) ?_
        walk_at "stps"
        refine w2 (run_cut (g := vw g ms) (t := t) c (by rw [show (vw g ms).rows.length = g.rows.length from view_len]; exact ht)) ?_
        rw [show viewL (Rec.mk g.rule (g.rows.take t)).rows (ms.filter fun x => (memsL (g.rows.take t)).contains x) = (vw g ms).rows.take t from view_take h.rows]
        have hg : RecGood ⟨g.rule, (vw g ms).rows.take t⟩ := ⟨h.rule, hv.rows.take t⟩
        refine w1 (rec_eq true hg) ?_
        walk_at "stps"
        exact ⟨.inl rfl, rfl, _, _, _, _, rfl, rfl⟩
    · rintro ρ' S' ⟨x3, x4, x5, x6, rfl, rfl⟩
      exact ⟨rfl, _, _, _, _, rfl, rfl⟩
  rintro ρ1 S1 ⟨x3, x4, x5, x6, rfl, e⟩
  subst S1
  walk_at "stps"
  exact ⟨rfl, rfl⟩
end
end K7
set_option Elab.async false
set_option linter.all false
set_option maxRecDepth 100000
set_option maxHeartbeats 4000000
namespace K7
open PySem PySem.Spec PyProof.Rows L2 FS Gn
abbrev lr (ns : List Int) (x3 x4 x5 x6 x7 x8 x9 x10 : Option D) : Rho := [some (.scr (ns.map D.int)), some (.ref 0), some (.ref 1), x3, x4, x5, x6, x7, x8, x9, x10]
theorem random_good {g : Rec} (h : RowsBy g.rows) (hl : g.rows.length ≤ 31) (hr : Rule g.rule) : RecGood g := ⟨hr, h.good hl⟩
theorem rows_eq {S : Sto} (neg : Bool) {rows : List Gn.Row} (h : Good rows) : eqO neg S (rowsD rows) (rowsD rows) = some (.bl (!neg)) := eq_nice neg (nice_rows h.ok (Nat.le_trans h.few (by decide))) (by decide)
theorem group_body {u : MO} {gs : List Rec} {ns : List Int} {g : Rec} (h : RecGood g) {x3 x7 x8 x9 x10 : Option D} {ms : List Str} (hms : ms ∈ groupsL (memsL g.rows)) {n : Nat} (hu : RdM u n) (hn : n ≤ 50000) :
    W3 ((cSeq (cSet 7 (cCall F__law_draw [] (cCons (cVar 1) (cCons (cC (.int 3)) cNil))))
    (cSeq (cIfS (cNotT (cTest (cCall F__law_check_view [] (cCons (cVar 4) (cCons (cOp tupleO (cCons (cVar 6) cNil)) (cCons (cVar 7) cNil)))))) (cRet (cC (.bl false))) cNx)
    (cSeq (cIfS (cNotT (cTest (cCall F__law_check_beginnings [] (cCons (cVar 4) (cCons (cOp tupleO (cCons (cVar 6) cNil)) (cCons (cVar 7) cNil)))))) (cRet (cC (.bl false))) cNx)
    (cSeq (cFor (sSeq (cSl3 (cCall F__law_groups [] (cCons (cVar 6) cNil)) (cP (cVar 7)) cNoP (cP (cC (.int 3))))) (gNm 8) (cIfS (cTest (cBin (eqO true) (cCall F_seen [] (cCons (cCall F_seen [] (cCons (cVar 4) (cCons (cOp tupleO (cCons (cVar 6) cNil)) cNil))) (cCons (cOp tupleO (cCons (cVar 8) cNil)) cNil))) (cCall F_seen [] (cCons (cVar 4) (cCons (cOp tupleO (cCons (cVar 8) cNil)) cNil))))) (cRet (cC (.bl false))) cNx))
    (cIfS (cTest (cBin (eqO true) (cCall F_with_rule [] (cCons (cCall F_seen [] (cCons (cVar 4) (cCons (cOp tupleO (cCons (cVar 6) cNil)) cNil))) (cCons (cC (.str "price")) cNil))) (cCall F_seen [] (cCons (cCall F_with_rule [] (cCons (cVar 4) (cCons (cC (.str "price")) cNil))) (cCons (cOp tupleO (cCons (cVar 6) cNil)) cNil))))) (cRet (cC (.bl false))) cNx)))))
      (lr ns x3 (some g.d) (some (strsL (memsL g.rows))) (some (strsL ms)) x7 x8 x9 x10) (lots u gs))
    fun fl ρ2 S2 => (fl = .nx ∨ fl = .ct) ∧ ∃ x7 x8 u2, ρ2 = lr ns x3 (some g.d) (some (strsL (memsL g.rows))) (some (strsL ms)) x7 x8 x9 x10 ∧ S2 = lots u2 gs ∧ RdM u2 (n + 1) := by
  have hfew := h.rows.few
  have hm := (groups_sub ms hms).1
  have hml : ms.length ≤ 5 := Nat.le_trans (groups_sub ms hms).2 (mems_len h.rows)
  obtain ⟨i2, u2, e2, hu2, h20, h21⟩ := run_draw (S := lots u gs) (r := 0) (many := 3) (lots_clo gs hu) rfl hu (by omega) (by decide) (by decide)
  obtain ⟨way, rfl⟩ : ∃ n2 : Nat, i2 = n2 := ⟨i2.toNat, by omega⟩
  have c : Clo (lots u2 gs) := lots_clo gs hu2
  have hv : RecGood (vw g ms) := seen_with h
  have hvl : (vw g ms).rows.length = g.rows.length := view_len
  refine w_mid (fun ρ1 S1 => ρ1 = lr ns x3 (some g.d) (some (strsL (memsL g.rows))) (some (strsL ms)) (some (.int way)) x8 x9 x10 ∧ S1 = lots u2 gs) ?_ ?_
  · walk_at "stps"
    refine w2 e2 ?_
    exact ⟨rfl, rfl, rfl⟩
  rintro ρ1 S1 ⟨rfl, e⟩
  subst S1
  refine w_mid (fun ρ1 S1 => ρ1 = lr ns x3 (some g.d) (some (strsL (memsL g.rows))) (some (strsL ms)) (some (.int way)) x8 x9 x10 ∧ S1 = lots u2 gs) ?_ ?_
  · walk_at "stps"
    refine w1 (tupleO_sq rfl) ?_
    walk_at "stps"
    refine w2 (run_check_view c h hm hml (by omega)) ?_
    walk_at "stps"
    exact ⟨rfl, rfl, rfl⟩
  rintro ρ1 S1 ⟨rfl, e⟩
  subst S1
  refine w_mid (fun ρ1 S1 => ρ1 = lr ns x3 (some g.d) (some (strsL (memsL g.rows))) (some (strsL ms)) (some (.int way)) x8 x9 x10 ∧ S1 = lots u2 gs) ?_ ?_
  · walk_at "stps"
    refine w1 (tupleO_sq rfl) ?_
    walk_at "stps"
    refine w2 (run_check_beginnings c h hm (by omega)) ?_
    walk_at "stps"
    exact ⟨rfl, rfl, rfl⟩
  rintro ρ1 S1 ⟨rfl, e⟩
  subst S1
  refine w_mid (fun ρ1 S1 => ∃ x8, ρ1 = lr ns x3 (some g.d) (some (strsL (memsL g.rows))) (some (strsL ms)) (some (.int way)) x8 x9 x10 ∧ S1 = lots u2 gs) ?_ ?_
  · refine w_fors (S1 := lots u2 gs) strsL (pickD (groupsL ms) (some (way : Int)) none (some 3)) none (fun pre ρ S1 => ∃ x8, ρ = lr ns x3 (some g.d) (some (strsL (memsL g.rows))) (some (strsL ms)) (some (.int way)) x8 x9 x10 ∧ S1 = lots u2 gs) (w_seqL ?_) ⟨_, rfl, rfl⟩ ?_ ?_
    · refine w_sl3 ?_
      walk_at "stps"
      refine w2 (run_groups c hml) ?_
      walk_at "stps"
      refine ⟨by decide, ?_, ?_, rfl⟩
      · have hg := groups_len ms
        have hp : 2 ^ ms.length ≤ 2 ^ 5 := Nat.pow_le_pow_right (by decide) hml
        unfold pickD
        refine Nat.le_trans (List.length_filterMap_le _ _) ?_
        unfold sliceRange sliceBounds
        rw [List.length_map, List.length_range, sL, List.length_map, hg]
        simp only [Option.getD_some]
        split
        · split
          · split
            · omega
            · omega
          · omega
        · omega
      · rw [pick_map]
    · rintro pre ms2 post e ρ S1 ⟨x8, rfl, eS⟩
      subst S1
      have h2 := groups_sub ms2 (pick_mem (by rw [e]; simp : ms2 ∈ pickD (groupsL ms) (some (way : Int)) none (some 3)))
      refine ⟨_, rfl, ?_⟩
      walk_at "stps"
      refine w1 (tupleO_sq rfl) ?_
      walk_at "stps"
      refine w2 (run_seen c (by omega) hm) ?_
      walk_at "stps"
      refine w1 (tupleO_sq rfl) ?_
      walk_at "stps"
      refine w2 (run_seen (g := vw g ms) (ms := ms2) c (by rw [hvl]; omega) fun x hx => ?_) ?_
      · rw [show memsL (vw g ms).rows = sortT (setT ms) from view_mems hm]
        exact sortT_mem.mpr (h2.1 x hx)
      walk_at "stps"
      refine w1 (tupleO_sq rfl) ?_
      walk_at "stps"
      refine w2 (run_seen c (by omega) fun x hx => hm x (h2.1 x hx)) ?_
      rw [show viewL (vw g ms).rows ms2 = viewL g.rows ms2 from view_view h2.1]
      refine w1 (rec_eq true (seen_with h)) ?_
      walk_at "stps"
      exact ⟨.inl rfl, rfl, _, rfl, rfl⟩
    · rintro ρ' S' ⟨x8, rfl, rfl⟩
      exact ⟨rfl, _, rfl, rfl⟩
  rintro ρ1 S1 ⟨x8, rfl, e⟩
  subst S1
  have hpr : Rule "price" := .inr (.inr rfl)
  walk_at "stps"
  refine w1 (tupleO_sq rfl) ?_
  walk_at "stps"
  refine w2 (run_seen c (by omega) hm) ?_
  walk_at "stps"
  refine w2 (run_with_rule c hpr) ?_
  walk_at "stps"
  refine w2 (run_with_rule c hpr) ?_
  walk_at "stps"
  refine w1 (tupleO_sq rfl) ?_
  walk_at "stps"
  refine w2 (run_seen (g := ⟨"price", g.rows⟩) (ms := ms) c (Nat.le_trans hfew (by decide)) hm) ?_
  refine w1 (rec_eq true (g := ⟨"price", viewL g.rows ms⟩) ⟨hpr, h.rows.view ms⟩) ?_
  walk_at "stps"
  exact ⟨.inl rfl, _, _, _, rfl, rfl, hu2⟩
theorem rec_body {u : MO} {gs : List Rec} {ns : List Int} {g : Rec} (h : RecGood g) {x3 x5 x6 x7 x8 x9 x10 : Option D} {n : Nat} (hu : RdM u n) (hn : n ≤ 40000) {b : B}
    (hb : ∀ (x7 x8 : Option D) (u : MO) (n : Nat) (ms : List Str), ms ∈ groupsL (memsL g.rows) → RdM u n → n ≤ 50000 → W3 (b (lr ns x3 (some g.d) (some (strsL (memsL g.rows))) (some (strsL ms)) x7 x8 x9 x10) (lots u gs)) fun fl ρ2 S2 => (fl = .nx ∨ fl = .ct) ∧ ∃ x7 x8 u2, ρ2 = lr ns x3 (some g.d) (some (strsL (memsL g.rows))) (some (strsL ms)) x7 x8 x9 x10 ∧ S2 = lots u2 gs ∧ RdM u2 (n + 1)) :
    W3 ((cSeq (cSet 5 (cOp listO (cCons (cCall F_members_of [] (cCons (cVar 4) cNil)) cNil)))
    (cSeq (cIfS (cTest (cBin (eqO true) (cCall F_seen [] (cCons (cVar 4) (cCons (cOp tupleO (cCons (cVar 5) cNil)) cNil))) (cVar 4))) (cRet (cC (.bl false))) cNx)
    (cSeq (cIfS (cTest (cBin (eqO true) (cCall F_with_rule [] (cCons (cCall F_with_rule [] (cCons (cVar 4) (cCons (cC (.str "late")) cNil))) (cCons (cBin ixO (cVar 4) (cC (.int 0))) cNil))) (cVar 4))) (cRet (cC (.bl false))) cNx)
    (cSeq (cFor (sSeq (cCall F__law_groups [] (cCons (cVar 5) cNil))) (gNm 6) b)
    (cFor (sSeq (cTup (cCons (cC (.str "time")) (cCons (cC (.str "late")) (cCons (cC (.str "price")) cNil))))) (gNm 9) (cSeq (cSet 10 (cCall F_with_rule [] (cCons (cVar 4) (cCons (cVar 9) cNil))))
    (cIfS (cOrT (cTest (cBin (eqO true) (cCall F_lets_record [] (cCons (cVar 10) cNil)) (cOp lenO (cCons (cBin ixO (cVar 4) (cC (.int 1))) cNil)))) (cOrT (cTest (cBin (eqO true) (cBin ixO (cVar 10) (cC (.int 1))) (cBin ixO (cVar 4) (cC (.int 1))))) (cTest (cBin (eqO true) (cBin ixO (cVar 10) (cC (.int 0))) (cVar 9))))) (cRet (cC (.bl false))) cNx)))))))
      (lr ns x3 (some g.d) x5 x6 x7 x8 x9 x10) (lots u gs))
    fun fl ρ2 S2 => (fl = .nx ∨ fl = .ct) ∧ ∃ x5 x6 x7 x8 x9 x10 u2, ρ2 = lr ns x3 (some g.d) x5 x6 x7 x8 x9 x10 ∧ S2 = lots u2 gs ∧ RdM u2 (n + 40) := by
  have hfew := h.rows.few
  have hl5 := mems_len h.rows
  have c : Clo (lots u gs) := lots_clo gs hu
  have hlate : Rule "late" := .inr (.inl rfl)
  refine w_mid (fun ρ1 S1 => ρ1 = lr ns x3 (some g.d) (some (strsL (memsL g.rows))) x6 x7 x8 x9 x10 ∧ S1 = lots u gs) ?_ ?_
  · walk_at "stps"
    refine w2 (run_members_of c (by omega)) ?_
    walk_at "stps"
    refine w1 (a := strsL (memsL g.rows)) rfl ?_
    exact ⟨rfl, rfl, rfl⟩
  rintro ρ1 S1 ⟨rfl, e⟩
  subst S1
  refine w_mid (fun ρ1 S1 => ρ1 = lr ns x3 (some g.d) (some (strsL (memsL g.rows))) x6 x7 x8 x9 x10 ∧ S1 = lots u gs) ?_ ?_
  · walk_at "stps"
    refine w1 (tupleO_sq rfl) ?_
    walk_at "stps"
    refine w2 (run_seen c (by omega) fun x hx => hx) ?_
    rw [view_all h.rows fun x hx => hx]
    walk_at "stps"
    refine w1 (rec_eq true h) ?_
    walk_at "stps"
    exact ⟨rfl, rfl, rfl⟩
  rintro ρ1 S1 ⟨rfl, e⟩
  subst S1
  refine w_mid (fun ρ1 S1 => ρ1 = lr ns x3 (some g.d) (some (strsL (memsL g.rows))) x6 x7 x8 x9 x10 ∧ S1 = lots u gs) ?_ ?_
  · walk_at "stps"
    refine w2 (run_with_rule c hlate) ?_
    walk_at "stps"
    refine w2 (run_with_rule c h.rule) ?_
    walk_at "stps"
    refine w1 (rec_eq true h) ?_
    walk_at "stps"
    exact ⟨rfl, rfl, rfl⟩
  rintro ρ1 S1 ⟨rfl, e⟩
  subst S1
  refine w_mid (fun ρ1 S1 => ∃ x6 x7 x8 u2, ρ1 = lr ns x3 (some g.d) (some (strsL (memsL g.rows))) x6 x7 x8 x9 x10 ∧ S1 = lots u2 gs ∧ RdM u2 (n + 32)) ?_ ?_
  · refine w_fors (S1 := lots u gs) strsL (groupsL (memsL g.rows)) none (fun pre ρ S1 => ∃ x6 x7 x8 u2, ρ = lr ns x3 (some g.d) (some (strsL (memsL g.rows))) x6 x7 x8 x9 x10 ∧ S1 = lots u2 gs ∧ RdM u2 (n + pre.length)) (w_seqL ?_) ⟨_, _, _, u, rfl, rfl, hu⟩ ?_ ?_
    · walk_at "stps"
      refine w2 (run_groups c hl5) ?_
      exact ⟨rfl, rfl⟩
    · rintro pre ms post e ρ S1 ⟨x6, x7, x8, u2, rfl, rfl, hu2⟩
      have hpl : pre.length ≤ 32 := by
        have h1 := congrArg List.length e
        rw [groups_len, List.length_append] at h1
        have : 2 ^ (memsL g.rows).length ≤ 2 ^ 5 := Nat.pow_le_pow_right (by decide) hl5
        omega
      refine ⟨_, rfl, ?_⟩
      refine w3_imp (hb x7 x8 u2 _ ms (by rw [e]; simp) hu2 (by omega)) ?_
      rintro fl ρ2 S2 ⟨h1, x7', x8', u3, rfl, rfl, hu3⟩
      exact ⟨h1, rfl, _, _, _, u3, rfl, rfl, by rw [List.length_append, List.length_singleton, ← Nat.add_assoc]; exact hu3⟩
    · rintro ρ' S' ⟨x6, x7, x8, u2, rfl, rfl, hu2⟩
      refine ⟨rfl, _, _, _, u2, rfl, rfl, hu2.mono ?_⟩
      rw [groups_len]
      have : 2 ^ (memsL g.rows).length ≤ 2 ^ 5 := Nat.pow_le_pow_right (by decide) hl5
      omega
  rintro ρ1 S1 ⟨x6, x7, x8, u2, rfl, rfl, hu2⟩
  have c2 : Clo (lots u2 gs) := lots_clo gs hu2
  refine w_fors (S1 := lots u2 gs) D.str ["time", "late", "price"] none (fun pre ρ S1 => ∃ x9 x10, ρ = lr ns x3 (some g.d) (some (strsL (memsL g.rows))) x6 x7 x8 x9 x10 ∧ S1 = lots u2 gs) (w_seqT ?_) ⟨_, _, rfl, rfl⟩ ?_ ?_
  · walk_at "stps"
    exact ⟨rfl, rfl⟩
  · rintro pre r post e ρ S1 ⟨x9, x10, rfl, eS⟩
    subst S1
    have hr : Rule r := by
      have : r ∈ (["time", "late", "price"] : List Str) := by rw [e]; simp
      simp only [List.mem_cons, List.not_mem_nil, or_false] at this
      exact this
    have hg : RecGood ⟨r, g.rows⟩ := ⟨hr, h.rows⟩
    refine ⟨_, rfl, ?_⟩
    walk_at "stps"
    refine w2 (run_with_rule c2 hr) ?_
    walk_at "stps"
    refine w2 (run_lets_record c2 hr h.rows) ?_
    walk_at "stps"
    refine w1 (rows_eq true h.rows) ?_
    walk_at "stps"
    refine br_of true (by simp) ?_
    walk_at "stps"
    exact ⟨.inl rfl, rfl, _, _, rfl, rfl⟩
  · rintro ρ' S' ⟨x9, x10, rfl, rfl⟩
    exact ⟨.inl rfl, _, _, _, _, _, _, u2, rfl, rfl, hu2.mono (by omega)⟩
theorem law_run (ns : List Int) : W2 (runFn 1 11 b_law [.scr (ns.map D.int)] []) fun d _ => d = .bl true := by
  obtain ⟨u0, e0, hu0⟩ := run_reader (S := []) ns
  refine w_run rfl ?_
  unfold b_law
  refine w_mid (fun ρ1 S1 => ρ1 = [some (.scr (ns.map D.int)), some (.ref 0), none, none, none, none, none, none, none, none, none] ∧ S1 = [u0]) ?_ ?_
  · walk_at "stps"
    refine w2 e0 ?_
    exact ⟨rfl, rfl, rfl⟩
  rintro ρ1 S1 ⟨rfl, rfl⟩
  refine w_mid (fun ρ1 S1 => ρ1 = lr ns none none none none none none none none ∧ S1 = lots u0 fixedR) ?_ ?_
  · walk_at "stps"
    refine w2 (run_fixed _) ?_
    exact ⟨rfl, rfl, rfl⟩
  rintro ρ1 S1 ⟨rfl, rfl⟩
  refine w_mid (fun ρ1 S1 => ∃ (x3 : Option D) (u : MO) (gs : List Rec), ρ1 = lr ns x3 none none none none none none none ∧ S1 = lots u gs ∧ RdM u 2000 ∧ (∀ g ∈ gs, RecGood g) ∧ gs.length ≤ 7) ?_ ?_
  · refine w_forr (S1 := lots u0 fixedR) 2 (fun k ρ1 S1 => ∃ (x3 : Option D) (u : MO) (gs : List Rec), ρ1 = lr ns x3 none none none none none none none ∧ S1 = lots u gs ∧ RdM u (1000 * k) ∧ (∀ g ∈ gs, RecGood g) ∧ gs.length ≤ 5 + k) ?_ ⟨none, u0, fixedR, rfl, rfl, hu0, fixed_good, Nat.le_refl _⟩ ?_ ?_
    · refine w_src (n := 2) ?_ (by decide)
      walk_at "stps"
      exact ⟨rfl, rfl⟩
    · rintro k hk ρ S1 ⟨x3, u, gs, rfl, rfl, hu, hgs, hgl⟩
      refine ⟨_, rfl, ?_⟩
      walk_at "stps"
      refine ⟨isL_at (n := 1) rfl, ?_⟩
      walk_at "stps"
      obtain ⟨g, u1, e1, hu1, hb, hl, hru⟩ := run_random_record (S := lots u gs) (r := 0) (most := 7) (lots_clo gs hu) rfl hu (by decide) (by omega)
      refine w2 e1 ?_
      walk_at "stps"
      refine w2 (app_to (n := 1) (xs := gs.map Rec.d) rfl ?_) ?_
      · rw [List.length_map, sL]; omega
      · rw [lots_add]
        refine ⟨.inl rfl, _, u1, gs ++ [g], rfl, rfl, hu1.mono (by omega), fun g' hg' => ?_, by rw [List.length_append, List.length_singleton]; omega⟩
        rcases List.mem_append.mp hg' with hg' | hg'
        · exact hgs g' hg'
        · rw [List.mem_singleton] at hg'
          subst hg'
          exact random_good hb (by omega) hru
    · rintro ρ' S' ⟨x3, u, gs, rfl, rfl, hu, hgs, hgl⟩
      exact ⟨rfl, x3, u, gs, rfl, rfl, hu.mono (by omega), hgs, by omega⟩
  rintro ρ1 S1 ⟨x3, u, gs, rfl, rfl, hu, hgs, hgl⟩
  (with_reducible refine w_seq ?_)
  refine w_fors (S1 := lots u gs) Rec.d gs (some 1) (fun pre ρ S1 => ∃ x4 x5 x6 x7 x8 x9 x10 u2, ρ = lr ns x3 x4 x5 x6 x7 x8 x9 x10 ∧ S1 = lots u2 gs ∧ RdM u2 (2000 + 40 * pre.length)) (src_ref (m := 1) rfl rfl) ⟨_, _, _, _, _, _, _, u, rfl, rfl, hu⟩ ?_ ?_
  · rintro pre g post e ρ S1 ⟨x4, x5, x6, x7, x8, x9, x10, u2, rfl, rfl, hu2⟩
    have hg : RecGood g := hgs g (by rw [e]; simp)
    have hpl : pre.length ≤ 7 := by
      have h1 := congrArg List.length e
      rw [List.length_append] at h1
      omega
    refine ⟨_, rfl, ?_⟩
    refine w3_imp (rec_body hg hu2 (by omega) fun x7 x8 u n ms hms hu hn => group_body hg hms hu hn) ?_
    rintro fl ρ2 S2 ⟨h1, x5, x6, x7, x8, x9, x10, u3, rfl, rfl, hu3⟩
    exact ⟨h1, still_at (n := 1) rfl, _, _, _, _, _, _, _, u3, rfl, rfl, hu3.mono (by rw [List.length_append, List.length_singleton]; omega)⟩
  · rintro ρ' S' ⟨x4, x5, x6, x7, x8, x9, x10, u2, rfl, rfl, hu2⟩
    walk_at "stps"
    first | rfl | exact ⟨_, rfl, rfl⟩
theorem law_true (ns : List Int) (_ : ns.length ≤ 63) : ∃ S', F_law [.scr (ns.map D.int)] [] = some (.bl true, S') := by
  obtain ⟨d, S', e, rfl⟩ := law_run ns
  exact ⟨_, settled_to (S1 := []) (T := S') (by rw [List.nil_append]; exact e) rfl Clo.nil rfl⟩
end K7
set_option Elab.async false
set_option linter.all false
set_option maxRecDepth 100000
set_option maxHeartbeats 4000000
namespace K7
open PySem PySem.Spec PyProof.Rows L2 FS
/-! ### from the head -/
def all_mk {K : PySem.W.Frag} {h : Heap} {mg : Str → Option Value} (X : K.In h) (G : h.Ns mainGlobals mg)
    {f0 : Addr} {od0 an0 : Option Addr} {sl0 : Array (Option Value)} {oc0 kV0 dc0 pm0 cd0 ct0 : Value}
    {f1 : Addr} {od1 an1 : Option Addr} {sl1 : Array (Option Value)} {oc1 kV1 dc1 pm1 cd1 ct1 : Value}
    {f2 : Addr} {od2 an2 : Option Addr} {sl2 : Array (Option Value)} {oc2 kV2 dc2 pm2 cd2 ct2 : Value}
    {f3 : Addr} {od3 an3 : Option Addr} {sl3 : Array (Option Value)} {oc3 kV3 dc3 pm3 cd3 ct3 : Value}
    {f4 : Addr} {od4 an4 : Option Addr} {sl4 : Array (Option Value)} {oc4 kV4 dc4 pm4 cd4 ct4 : Value}
    {f5 : Addr} {od5 an5 : Option Addr} {sl5 : Array (Option Value)} {oc5 kV5 dc5 pm5 cd5 ct5 : Value}
    {f6 : Addr} {od6 an6 : Option Addr} {sl6 : Array (Option Value)} {oc6 kV6 dc6 pm6 cd6 ct6 : Value}
    {f7 : Addr} {od7 an7 : Option Addr} {sl7 : Array (Option Value)} {oc7 kV7 dc7 pm7 cd7 ct7 : Value}
    {f8 : Addr} {od8 an8 : Option Addr} {sl8 : Array (Option Value)} {oc8 kV8 dc8 pm8 cd8 ct8 : Value}
    {f9 : Addr} {od9 an9 : Option Addr} {sl9 : Array (Option Value)} {oc9 kV9 dc9 pm9 cd9 ct9 : Value}
    {f10 : Addr} {od10 an10 : Option Addr} {sl10 : Array (Option Value)} {oc10 kV10 dc10 pm10 cd10 ct10 : Value}
    {f11 : Addr} {od11 an11 : Option Addr} {sl11 : Array (Option Value)} {oc11 kV11 dc11 pm11 cd11 ct11 : Value}
    {f12 : Addr} {od12 an12 : Option Addr} {sl12 : Array (Option Value)} {oc12 kV12 dc12 pm12 cd12 ct12 : Value}
    {f13 : Addr} {od13 an13 : Option Addr} {sl13 : Array (Option Value)} {oc13 kV13 dc13 pm13 cd13 ct13 : Value}
    {f14 : Addr} {od14 an14 : Option Addr} {sl14 : Array (Option Value)} {oc14 kV14 dc14 pm14 cd14 ct14 : Value}
    {f15 : Addr} {od15 an15 : Option Addr} {sl15 : Array (Option Value)} {oc15 kV15 dc15 pm15 cd15 ct15 : Value}
    {f16 : Addr} {od16 an16 : Option Addr} {sl16 : Array (Option Value)} {oc16 kV16 dc16 pm16 cd16 ct16 : Value}
    {f17 : Addr} {od17 an17 : Option Addr} {sl17 : Array (Option Value)} {oc17 kV17 dc17 pm17 cd17 ct17 : Value}
    {f18 : Addr} {od18 an18 : Option Addr} {sl18 : Array (Option Value)} {oc18 kV18 dc18 pm18 cd18 ct18 : Value}
    {f19 : Addr} {od19 an19 : Option Addr} {sl19 : Array (Option Value)} {oc19 kV19 dc19 pm19 cd19 ct19 : Value}
    {f20 : Addr} {od20 an20 : Option Addr} {sl20 : Array (Option Value)} {oc20 kV20 dc20 pm20 cd20 ct20 : Value}
    {f21 : Addr} {od21 an21 : Option Addr} {sl21 : Array (Option Value)} {oc21 kV21 dc21 pm21 cd21 ct21 : Value}
    {f22 : Addr} {od22 an22 : Option Addr} {sl22 : Array (Option Value)} {oc22 kV22 dc22 pm22 cd22 ct22 : Value}
    {f23 : Addr} {od23 an23 : Option Addr} {sl23 : Array (Option Value)} {oc23 kV23 dc23 pm23 cd23 ct23 : Value}
    {f24 : Addr} {od24 an24 : Option Addr} {sl24 : Array (Option Value)} {oc24 kV24 dc24 pm24 cd24 ct24 : Value}
    {f25 qd25 : Addr} {od25 an25 dd25 : Option Addr} {sl25 sd25 : Array (Option Value)} {oc25 kV25 dc25 pm25 cd25 ct25 cc25 : Value} {nd25 : Nat} {td25_0 : Tok}
    {f26 qd26 : Addr} {od26 an26 dd26 : Option Addr} {sl26 sd26 : Array (Option Value)} {oc26 kV26 dc26 pm26 cd26 ct26 cc26 : Value} {nd26 : Nat} {td26_0 : Tok}
    {f27 : Addr} {od27 an27 : Option Addr} {sl27 : Array (Option Value)} {oc27 kV27 dc27 pm27 cd27 ct27 : Value}
    {f28 : Addr} {od28 an28 : Option Addr} {sl28 : Array (Option Value)} {oc28 kV28 dc28 pm28 cd28 ct28 : Value}
    {f29 : Addr} {od29 an29 : Option Addr} {sl29 : Array (Option Value)} {oc29 kV29 dc29 pm29 cd29 ct29 : Value}
    {f30 : Addr} {od30 an30 : Option Addr} {sl30 : Array (Option Value)} {oc30 kV30 dc30 pm30 cd30 ct30 : Value}
    {f31 : Addr} {od31 an31 : Option Addr} {sl31 : Array (Option Value)} {oc31 kV31 dc31 pm31 cd31 ct31 : Value}
    {f32 : Addr} {od32 an32 : Option Addr} {sl32 : Array (Option Value)} {oc32 kV32 dc32 pm32 cd32 ct32 : Value}
    {f33 : Addr} {od33 an33 : Option Addr} {sl33 : Array (Option Value)} {oc33 kV33 dc33 pm33 cd33 ct33 : Value}
    {f34 : Addr} {od34 an34 : Option Addr} {sl34 : Array (Option Value)} {oc34 kV34 dc34 pm34 cd34 ct34 : Value}
    {f35 : Addr} {od35 an35 : Option Addr} {sl35 : Array (Option Value)} {oc35 kV35 dc35 pm35 cd35 ct35 : Value}
    {f36 : Addr} {od36 an36 : Option Addr} {sl36 : Array (Option Value)} {oc36 kV36 dc36 pm36 cd36 ct36 : Value}
    {f37 : Addr} {od37 an37 : Option Addr} {sl37 : Array (Option Value)} {oc37 kV37 dc37 pm37 cd37 ct37 : Value}
    {f38 : Addr} {od38 an38 : Option Addr} {sl38 : Array (Option Value)} {oc38 kV38 dc38 pm38 cd38 ct38 : Value}
    {f39 : Addr} {od39 an39 : Option Addr} {sl39 : Array (Option Value)} {oc39 kV39 dc39 pm39 cd39 ct39 : Value}
    {f40 : Addr} {od40 an40 : Option Addr} {sl40 : Array (Option Value)} {oc40 kV40 dc40 pm40 cd40 ct40 : Value}
    {f41 : Addr} {od41 an41 : Option Addr} {sl41 : Array (Option Value)} {oc41 kV41 dc41 pm41 cd41 ct41 : Value}
    {f42 : Addr} {od42 an42 : Option Addr} {sl42 : Array (Option Value)} {oc42 kV42 dc42 pm42 cd42 ct42 : Value}
    {f43 : Addr} {od43 an43 : Option Addr} {sl43 : Array (Option Value)} {oc43 kV43 dc43 pm43 cd43 ct43 : Value}
    {f44 : Addr} {od44 an44 : Option Addr} {sl44 : Array (Option Value)} {oc44 kV44 dc44 pm44 cd44 ct44 : Value}
    {f45 : Addr} {od45 an45 : Option Addr} {sl45 : Array (Option Value)} {oc45 kV45 dc45 pm45 cd45 ct45 : Value}
    {f46 : Addr} {od46 an46 : Option Addr} {sl46 : Array (Option Value)} {oc46 kV46 dc46 pm46 cd46 ct46 : Value}
    {f47 : Addr} {od47 an47 : Option Addr} {sl47 : Array (Option Value)} {oc47 kV47 dc47 pm47 cd47 ct47 : Value}
    {f48 : Addr} {od48 an48 : Option Addr} {sl48 : Array (Option Value)} {oc48 kV48 dc48 pm48 cd48 ct48 : Value}
    {f49 : Addr} {od49 an49 : Option Addr} {sl49 : Array (Option Value)} {oc49 kV49 dc49 pm49 cd49 ct49 : Value}
    {f50 : Addr} {od50 an50 : Option Addr} {sl50 : Array (Option Value)} {oc50 kV50 dc50 pm50 cd50 ct50 : Value}
    {f51 : Addr} {od51 an51 : Option Addr} {sl51 : Array (Option Value)} {oc51 kV51 dc51 pm51 cd51 ct51 : Value}
    {f52 : Addr} {od52 an52 : Option Addr} {sl52 : Array (Option Value)} {oc52 kV52 dc52 pm52 cd52 ct52 : Value}
    {f53 : Addr} {od53 an53 : Option Addr} {sl53 : Array (Option Value)} {oc53 kV53 dc53 pm53 cd53 ct53 : Value}
    {f54 : Addr} {od54 an54 : Option Addr} {sl54 : Array (Option Value)} {oc54 kV54 dc54 pm54 cd54 ct54 : Value}
    {f55 : Addr} {od55 an55 : Option Addr} {sl55 : Array (Option Value)} {oc55 kV55 dc55 pm55 cd55 ct55 : Value}
    {f56 : Addr} {od56 an56 : Option Addr} {sl56 : Array (Option Value)} {oc56 kV56 dc56 pm56 cd56 ct56 : Value}
    {f57 : Addr} {od57 an57 : Option Addr} {sl57 : Array (Option Value)} {oc57 kV57 dc57 pm57 cd57 ct57 : Value}
    {f58 : Addr} {od58 an58 : Option Addr} {sl58 : Array (Option Value)} {oc58 kV58 dc58 pm58 cd58 ct58 : Value}
    {f59 : Addr} {od59 an59 : Option Addr} {sl59 : Array (Option Value)} {oc59 kV59 dc59 pm59 cd59 ct59 : Value}
    {f60 : Addr} {od60 an60 : Option Addr} {sl60 : Array (Option Value)} {oc60 kV60 dc60 pm60 cd60 ct60 : Value}
    {t0 : Tok}
    {t1 : Tok}
    {q2 : Addr} {dq2 : Option Addr} {nq2 : Nat} {sq2 : Array (Option Value)} {tq2_0 tq2_1 : Tok}
    {q3 : Addr} {dq3 : Option Addr} {nq3 : Nat} {sq3 : Array (Option Value)} {tq3_0 tq3_1 tq3_2 : Tok}
    {t4 : Tok}
    (a0 : PySem.W.nsIn K mainGlobals "is_integer" = some (some (.ref f0))) (l0 : K.lookup f0 = some ⟨oc0, od0, .func (PySem.W.fnOf "is_integer" "is_integer" (defArgs s_is_integer) (defBody s_is_integer) (defScope s_is_integer) .none kV0 dc0 pm0 an0 cd0 ct0), sl0⟩) (c0 : PySem.W.codeIn K cd0 "is_integer" = true) (k0 : PySem.W.keepIn K (.ref f0) = true)
    (a1 : PySem.W.nsIn K mainGlobals "is_number" = some (some (.ref f1))) (l1 : K.lookup f1 = some ⟨oc1, od1, .func (PySem.W.fnOf "is_number" "is_number" (defArgs s_is_number) (defBody s_is_number) (defScope s_is_number) .none kV1 dc1 pm1 an1 cd1 ct1), sl1⟩) (c1 : PySem.W.codeIn K cd1 "is_number" = true) (k1 : PySem.W.keepIn K (.ref f1) = true)
    (a2 : PySem.W.nsIn K mainGlobals "is_size" = some (some (.ref f2))) (l2 : K.lookup f2 = some ⟨oc2, od2, .func (PySem.W.fnOf "is_size" "is_size" (defArgs s_is_size) (defBody s_is_size) (defScope s_is_size) .none kV2 dc2 pm2 an2 cd2 ct2), sl2⟩) (c2 : PySem.W.codeIn K cd2 "is_size" = true) (k2 : PySem.W.keepIn K (.ref f2) = true)
    (a3 : PySem.W.nsIn K mainGlobals "is_name" = some (some (.ref f3))) (l3 : K.lookup f3 = some ⟨oc3, od3, .func (PySem.W.fnOf "is_name" "is_name" (defArgs s_is_name) (defBody s_is_name) (defScope s_is_name) .none kV3 dc3 pm3 an3 cd3 ct3), sl3⟩) (c3 : PySem.W.codeIn K cd3 "is_name" = true) (k3 : PySem.W.keepIn K (.ref f3) = true)
    (a4 : PySem.W.nsIn K mainGlobals "is_side" = some (some (.ref f4))) (l4 : K.lookup f4 = some ⟨oc4, od4, .func (PySem.W.fnOf "is_side" "is_side" (defArgs s_is_side) (defBody s_is_side) (defScope s_is_side) .none kV4 dc4 pm4 an4 cd4 ct4), sl4⟩) (c4 : PySem.W.codeIn K cd4 "is_side" = true) (k4 : PySem.W.keepIn K (.ref f4) = true)
    (a5 : PySem.W.nsIn K mainGlobals "is_rule" = some (some (.ref f5))) (l5 : K.lookup f5 = some ⟨oc5, od5, .func (PySem.W.fnOf "is_rule" "is_rule" (defArgs s_is_rule) (defBody s_is_rule) (defScope s_is_rule) .none kV5 dc5 pm5 an5 cd5 ct5), sl5⟩) (c5 : PySem.W.codeIn K cd5 "is_rule" = true) (k5 : PySem.W.keepIn K (.ref f5) = true)
    (a6 : PySem.W.nsIn K mainGlobals "is_fill" = some (some (.ref f6))) (l6 : K.lookup f6 = some ⟨oc6, od6, .func (PySem.W.fnOf "is_fill" "is_fill" (defArgs s_is_fill) (defBody s_is_fill) (defScope s_is_fill) .none kV6 dc6 pm6 an6 cd6 ct6), sl6⟩) (c6 : PySem.W.codeIn K cd6 "is_fill" = true) (k6 : PySem.W.keepIn K (.ref f6) = true)
    (a7 : PySem.W.nsIn K mainGlobals "are_fills" = some (some (.ref f7))) (l7 : K.lookup f7 = some ⟨oc7, od7, .func (PySem.W.fnOf "are_fills" "are_fills" (defArgs s_are_fills) (defBody s_are_fills) (defScope s_are_fills) .none kV7 dc7 pm7 an7 cd7 ct7), sl7⟩) (c7 : PySem.W.codeIn K cd7 "are_fills" = true) (k7 : PySem.W.keepIn K (.ref f7) = true)
    (a8 : PySem.W.nsIn K mainGlobals "is_pair" = some (some (.ref f8))) (l8 : K.lookup f8 = some ⟨oc8, od8, .func (PySem.W.fnOf "is_pair" "is_pair" (defArgs s_is_pair) (defBody s_is_pair) (defScope s_is_pair) .none kV8 dc8 pm8 an8 cd8 ct8), sl8⟩) (c8 : PySem.W.codeIn K cd8 "is_pair" = true) (k8 : PySem.W.keepIn K (.ref f8) = true)
    (a9 : PySem.W.nsIn K mainGlobals "are_pairs" = some (some (.ref f9))) (l9 : K.lookup f9 = some ⟨oc9, od9, .func (PySem.W.fnOf "are_pairs" "are_pairs" (defArgs s_are_pairs) (defBody s_are_pairs) (defScope s_are_pairs) .none kV9 dc9 pm9 an9 cd9 ct9), sl9⟩) (c9 : PySem.W.codeIn K cd9 "are_pairs" = true) (k9 : PySem.W.keepIn K (.ref f9) = true)
    (a10 : PySem.W.nsIn K mainGlobals "is_order_row" = some (some (.ref f10))) (l10 : K.lookup f10 = some ⟨oc10, od10, .func (PySem.W.fnOf "is_order_row" "is_order_row" (defArgs s_is_order_row) (defBody s_is_order_row) (defScope s_is_order_row) .none kV10 dc10 pm10 an10 cd10 ct10), sl10⟩) (c10 : PySem.W.codeIn K cd10 "is_order_row" = true) (k10 : PySem.W.keepIn K (.ref f10) = true)
    (a11 : PySem.W.nsIn K mainGlobals "is_call_row" = some (some (.ref f11))) (l11 : K.lookup f11 = some ⟨oc11, od11, .func (PySem.W.fnOf "is_call_row" "is_call_row" (defArgs s_is_call_row) (defBody s_is_call_row) (defScope s_is_call_row) .none kV11 dc11 pm11 an11 cd11 ct11), sl11⟩) (c11 : PySem.W.codeIn K cd11 "is_call_row" = true) (k11 : PySem.W.keepIn K (.ref f11) = true)
    (a12 : PySem.W.nsIn K mainGlobals "is_row" = some (some (.ref f12))) (l12 : K.lookup f12 = some ⟨oc12, od12, .func (PySem.W.fnOf "is_row" "is_row" (defArgs s_is_row) (defBody s_is_row) (defScope s_is_row) .none kV12 dc12 pm12 an12 cd12 ct12), sl12⟩) (c12 : PySem.W.codeIn K cd12 "is_row" = true) (k12 : PySem.W.keepIn K (.ref f12) = true)
    (a13 : PySem.W.nsIn K mainGlobals "fills_in" = some (some (.ref f13))) (l13 : K.lookup f13 = some ⟨oc13, od13, .func (PySem.W.fnOf "fills_in" "fills_in" (defArgs s_fills_in) (defBody s_fills_in) (defScope s_fills_in) .none kV13 dc13 pm13 an13 cd13 ct13), sl13⟩) (c13 : PySem.W.codeIn K cd13 "fills_in" = true) (k13 : PySem.W.keepIn K (.ref f13) = true)
    (a14 : PySem.W.nsIn K mainGlobals "lots_in" = some (some (.ref f14))) (l14 : K.lookup f14 = some ⟨oc14, od14, .func (PySem.W.fnOf "lots_in" "lots_in" (defArgs s_lots_in) (defBody s_lots_in) (defScope s_lots_in) .none kV14 dc14 pm14 an14 cd14 ct14), sl14⟩) (c14 : PySem.W.codeIn K cd14 "lots_in" = true) (k14 : PySem.W.keepIn K (.ref f14) = true)
    (a15 : PySem.W.nsIn K mainGlobals "lots_before" = some (some (.ref f15))) (l15 : K.lookup f15 = some ⟨oc15, od15, .func (PySem.W.fnOf "lots_before" "lots_before" (defArgs s_lots_before) (defBody s_lots_before) (defScope s_lots_before) .none kV15 dc15 pm15 an15 cd15 ct15), sl15⟩) (c15 : PySem.W.codeIn K cd15 "lots_before" = true) (k15 : PySem.W.keepIn K (.ref f15) = true)
    (a16 : PySem.W.nsIn K mainGlobals "rest_of" = some (some (.ref f16))) (l16 : K.lookup f16 = some ⟨oc16, od16, .func (PySem.W.fnOf "rest_of" "rest_of" (defArgs s_rest_of) (defBody s_rest_of) (defScope s_rest_of) .none kV16 dc16 pm16 an16 cd16 ct16), sl16⟩) (c16 : PySem.W.codeIn K cd16 "rest_of" = true) (k16 : PySem.W.keepIn K (.ref f16) = true)
    (a17 : PySem.W.nsIn K mainGlobals "is_open" = some (some (.ref f17))) (l17 : K.lookup f17 = some ⟨oc17, od17, .func (PySem.W.fnOf "is_open" "is_open" (defArgs s_is_open) (defBody s_is_open) (defScope s_is_open) .none kV17 dc17 pm17 an17 cd17 ct17), sl17⟩) (c17 : PySem.W.codeIn K cd17 "is_open" = true) (k17 : PySem.W.keepIn K (.ref f17) = true)
    (a18 : PySem.W.nsIn K mainGlobals "is_shut" = some (some (.ref f18))) (l18 : K.lookup f18 = some ⟨oc18, od18, .func (PySem.W.fnOf "is_shut" "is_shut" (defArgs s_is_shut) (defBody s_is_shut) (defScope s_is_shut) .none kV18 dc18 pm18 an18 cd18 ct18), sl18⟩) (c18 : PySem.W.codeIn K cd18 "is_shut" = true) (k18 : PySem.W.keepIn K (.ref f18) = true)
    (a19 : PySem.W.nsIn K mainGlobals "members_of" = some (some (.ref f19))) (l19 : K.lookup f19 = some ⟨oc19, od19, .func (PySem.W.fnOf "members_of" "members_of" (defArgs s_members_of) (defBody s_members_of) (defScope s_members_of) .none kV19 dc19 pm19 an19 cd19 ct19), sl19⟩) (c19 : PySem.W.codeIn K cd19 "members_of" = true) (k19 : PySem.W.keepIn K (.ref f19) = true)
    (a20 : PySem.W.nsIn K mainGlobals "orders_of" = some (some (.ref f20))) (l20 : K.lookup f20 = some ⟨oc20, od20, .func (PySem.W.fnOf "orders_of" "orders_of" (defArgs s_orders_of) (defBody s_orders_of) (defScope s_orders_of) .none kV20 dc20 pm20 an20 cd20 ct20), sl20⟩) (c20 : PySem.W.codeIn K cd20 "orders_of" = true) (k20 : PySem.W.keepIn K (.ref f20) = true)
    (a21 : PySem.W.nsIn K mainGlobals "require_order" = some (some (.ref f21))) (l21 : K.lookup f21 = some ⟨oc21, od21, .func (PySem.W.fnOf "require_order" "require_order" (defArgs s_require_order) (defBody s_require_order) (defScope s_require_order) .none kV21 dc21 pm21 an21 cd21 ct21), sl21⟩) (c21 : PySem.W.codeIn K cd21 "require_order" = true) (k21 : PySem.W.keepIn K (.ref f21) = true)
    (a22 : PySem.W.nsIn K mainGlobals "is_place" = some (some (.ref f22))) (l22 : K.lookup f22 = some ⟨oc22, od22, .func (PySem.W.fnOf "is_place" "is_place" (defArgs s_is_place) (defBody s_is_place) (defScope s_is_place) .none kV22 dc22 pm22 an22 cd22 ct22), sl22⟩) (c22 : PySem.W.codeIn K cd22 "is_place" = true) (k22 : PySem.W.keepIn K (.ref f22) = true)
    (a23 : PySem.W.nsIn K mainGlobals "require_place" = some (some (.ref f23))) (l23 : K.lookup f23 = some ⟨oc23, od23, .func (PySem.W.fnOf "require_place" "require_place" (defArgs s_require_place) (defBody s_require_place) (defScope s_require_place) .none kV23 dc23 pm23 an23 cd23 ct23), sl23⟩) (c23 : PySem.W.codeIn K cd23 "require_place" = true) (k23 : PySem.W.keepIn K (.ref f23) = true)
    (a24 : PySem.W.nsIn K mainGlobals "order_at" = some (some (.ref f24))) (l24 : K.lookup f24 = some ⟨oc24, od24, .func (PySem.W.fnOf "order_at" "order_at" (defArgs s_order_at) (defBody s_order_at) (defScope s_order_at) .none kV24 dc24 pm24 an24 cd24 ct24), sl24⟩) (c24 : PySem.W.codeIn K cd24 "order_at" = true) (k24 : PySem.W.keepIn K (.ref f24) = true)
    (a25 : PySem.W.nsIn K mainGlobals "rest_at" = some (some (.ref f25))) (l25 : K.lookup f25 = some ⟨oc25, od25, .func (PySem.W.fnOf "rest_at" "rest_at" (defArgs s_rest_at) (defBody s_rest_at) (defScope s_rest_at) (.ref qd25) kV25 dc25 pm25 an25 cd25 ct25), sl25⟩) (c25 : PySem.W.codeIn K cd25 "rest_at" = true) (k25 : PySem.W.keepIn K (.ref f25) = true) (m25 : K.lookup qd25 = some ⟨cc25, dd25, .seq #[.int 0 td25_0] nd25, sd25⟩)
    (a26 : PySem.W.nsIn K mainGlobals "open_at" = some (some (.ref f26))) (l26 : K.lookup f26 = some ⟨oc26, od26, .func (PySem.W.fnOf "open_at" "open_at" (defArgs s_open_at) (defBody s_open_at) (defScope s_open_at) (.ref qd26) kV26 dc26 pm26 an26 cd26 ct26), sl26⟩) (c26 : PySem.W.codeIn K cd26 "open_at" = true) (k26 : PySem.W.keepIn K (.ref f26) = true) (m26 : K.lookup qd26 = some ⟨cc26, dd26, .seq #[.int 0 td26_0] nd26, sd26⟩)
    (a27 : PySem.W.nsIn K mainGlobals "prints_of" = some (some (.ref f27))) (l27 : K.lookup f27 = some ⟨oc27, od27, .func (PySem.W.fnOf "prints_of" "prints_of" (defArgs s_prints_of) (defBody s_prints_of) (defScope s_prints_of) .none kV27 dc27 pm27 an27 cd27 ct27), sl27⟩) (c27 : PySem.W.codeIn K cd27 "prints_of" = true) (k27 : PySem.W.keepIn K (.ref f27) = true)
    (a28 : PySem.W.nsIn K mainGlobals "traded" = some (some (.ref f28))) (l28 : K.lookup f28 = some ⟨oc28, od28, .func (PySem.W.fnOf "traded" "traded" (defArgs s_traded) (defBody s_traded) (defScope s_traded) .none kV28 dc28 pm28 an28 cd28 ct28), sl28⟩) (c28 : PySem.W.codeIn K cd28 "traded" = true) (k28 : PySem.W.keepIn K (.ref f28) = true)
    (a29 : PySem.W.nsIn K mainGlobals "strange_fills" = some (some (.ref f29))) (l29 : K.lookup f29 = some ⟨oc29, od29, .func (PySem.W.fnOf "strange_fills" "strange_fills" (defArgs s_strange_fills) (defBody s_strange_fills) (defScope s_strange_fills) .none kV29 dc29 pm29 an29 cd29 ct29), sl29⟩) (c29 : PySem.W.codeIn K cd29 "strange_fills" = true) (k29 : PySem.W.keepIn K (.ref f29) = true)
    (a30 : PySem.W.nsIn K mainGlobals "seen_row" = some (some (.ref f30))) (l30 : K.lookup f30 = some ⟨oc30, od30, .func (PySem.W.fnOf "seen_row" "seen_row" (defArgs s_seen_row) (defBody s_seen_row) (defScope s_seen_row) .none kV30 dc30 pm30 an30 cd30 ct30), sl30⟩) (c30 : PySem.W.codeIn K cd30 "seen_row" = true) (k30 : PySem.W.keepIn K (.ref f30) = true)
    (a31 : PySem.W.nsIn K mainGlobals "seen" = some (some (.ref f31))) (l31 : K.lookup f31 = some ⟨oc31, od31, .func (PySem.W.fnOf "seen" "seen" (defArgs s_seen) (defBody s_seen) (defScope s_seen) .none kV31 dc31 pm31 an31 cd31 ct31), sl31⟩) (c31 : PySem.W.codeIn K cd31 "seen" = true) (k31 : PySem.W.keepIn K (.ref f31) = true)
    (a32 : PySem.W.nsIn K mainGlobals "with_rule" = some (some (.ref f32))) (l32 : K.lookup f32 = some ⟨oc32, od32, .func (PySem.W.fnOf "with_rule" "with_rule" (defArgs s_with_rule) (defBody s_with_rule) (defScope s_with_rule) .none kV32 dc32 pm32 an32 cd32 ct32), sl32⟩) (c32 : PySem.W.codeIn K cd32 "with_rule" = true) (k32 : PySem.W.keepIn K (.ref f32) = true)
    (a33 : PySem.W.nsIn K mainGlobals "cut" = some (some (.ref f33))) (l33 : K.lookup f33 = some ⟨oc33, od33, .func (PySem.W.fnOf "cut" "cut" (defArgs s_cut) (defBody s_cut) (defScope s_cut) .none kV33 dc33 pm33 an33 cd33 ct33), sl33⟩) (c33 : PySem.W.codeIn K cd33 "cut" = true) (k33 : PySem.W.keepIn K (.ref f33) = true)
    (a34 : PySem.W.nsIn K mainGlobals "require" = some (some (.ref f34))) (l34 : K.lookup f34 = some ⟨oc34, od34, .func (PySem.W.fnOf "require" "require" (defArgs s_require) (defBody s_require) (defScope s_require) .none kV34 dc34 pm34 an34 cd34 ct34), sl34⟩) (c34 : PySem.W.codeIn K cd34 "require" = true) (k34 : PySem.W.keepIn K (.ref f34) = true)
    (a35 : PySem.W.nsIn K mainGlobals "has_shape" = some (some (.ref f35))) (l35 : K.lookup f35 = some ⟨oc35, od35, .func (PySem.W.fnOf "has_shape" "has_shape" (defArgs s_has_shape) (defBody s_has_shape) (defScope s_has_shape) .none kV35 dc35 pm35 an35 cd35 ct35), sl35⟩) (c35 : PySem.W.codeIn K cd35 "has_shape" = true) (k35 : PySem.W.keepIn K (.ref f35) = true)
    (a36 : PySem.W.nsIn K mainGlobals "is_within" = some (some (.ref f36))) (l36 : K.lookup f36 = some ⟨oc36, od36, .func (PySem.W.fnOf "is_within" "is_within" (defArgs s_is_within) (defBody s_is_within) (defScope s_is_within) .none kV36 dc36 pm36 an36 cd36 ct36), sl36⟩) (c36 : PySem.W.codeIn K cd36 "is_within" = true) (k36 : PySem.W.keepIn K (.ref f36) = true)
    (a37 : PySem.W.nsIn K mainGlobals "check_closed" = some (some (.ref f37))) (l37 : K.lookup f37 = some ⟨oc37, od37, .func (PySem.W.fnOf "check_closed" "check_closed" (defArgs s_check_closed) (defBody s_check_closed) (defScope s_check_closed) .none kV37 dc37 pm37 an37 cd37 ct37), sl37⟩) (c37 : PySem.W.codeIn K cd37 "check_closed" = true) (k37 : PySem.W.keepIn K (.ref f37) = true)
    (a38 : PySem.W.nsIn K mainGlobals "check_resting" = some (some (.ref f38))) (l38 : K.lookup f38 = some ⟨oc38, od38, .func (PySem.W.fnOf "check_resting" "check_resting" (defArgs s_check_resting) (defBody s_check_resting) (defScope s_check_resting) .none kV38 dc38 pm38 an38 cd38 ct38), sl38⟩) (c38 : PySem.W.codeIn K cd38 "check_resting" = true) (k38 : PySem.W.keepIn K (.ref f38) = true)
    (a39 : PySem.W.nsIn K mainGlobals "check_own" = some (some (.ref f39))) (l39 : K.lookup f39 = some ⟨oc39, od39, .func (PySem.W.fnOf "check_own" "check_own" (defArgs s_check_own) (defBody s_check_own) (defScope s_check_own) .none kV39 dc39 pm39 an39 cd39 ct39), sl39⟩) (c39 : PySem.W.codeIn K cd39 "check_own" = true) (k39 : PySem.W.keepIn K (.ref f39) = true)
    (a40 : PySem.W.nsIn K mainGlobals "check_print" = some (some (.ref f40))) (l40 : K.lookup f40 = some ⟨oc40, od40, .func (PySem.W.fnOf "check_print" "check_print" (defArgs s_check_print) (defBody s_check_print) (defScope s_check_print) .none kV40 dc40 pm40 an40 cd40 ct40), sl40⟩) (c40 : PySem.W.codeIn K cd40 "check_print" = true) (k40 : PySem.W.keepIn K (.ref f40) = true)
    (a41 : PySem.W.nsIn K mainGlobals "check_call" = some (some (.ref f41))) (l41 : K.lookup f41 = some ⟨oc41, od41, .func (PySem.W.fnOf "check_call" "check_call" (defArgs s_check_call) (defBody s_check_call) (defScope s_check_call) .none kV41 dc41 pm41 an41 cd41 ct41), sl41⟩) (c41 : PySem.W.codeIn K cd41 "check_call" = true) (k41 : PySem.W.keepIn K (.ref f41) = true)
    (a42 : PySem.W.nsIn K mainGlobals "check_row" = some (some (.ref f42))) (l42 : K.lookup f42 = some ⟨oc42, od42, .func (PySem.W.fnOf "check_row" "check_row" (defArgs s_check_row) (defBody s_check_row) (defScope s_check_row) .none kV42 dc42 pm42 an42 cd42 ct42), sl42⟩) (c42 : PySem.W.codeIn K cd42 "check_row" = true) (k42 : PySem.W.keepIn K (.ref f42) = true)
    (a43 : PySem.W.nsIn K mainGlobals "lets_record" = some (some (.ref f43))) (l43 : K.lookup f43 = some ⟨oc43, od43, .func (PySem.W.fnOf "lets_record" "lets_record" (defArgs s_lets_record) (defBody s_lets_record) (defScope s_lets_record) .none kV43 dc43 pm43 an43 cd43 ct43), sl43⟩) (c43 : PySem.W.codeIn K cd43 "lets_record" = true) (k43 : PySem.W.keepIn K (.ref f43) = true)
    (a44 : PySem.W.nsIn K mainGlobals "_law_reader" = some (some (.ref f44))) (l44 : K.lookup f44 = some ⟨oc44, od44, .func (PySem.W.fnOf "_law_reader" "_law_reader" (defArgs s__law_reader) (defBody s__law_reader) (defScope s__law_reader) .none kV44 dc44 pm44 an44 cd44 ct44), sl44⟩) (c44 : PySem.W.codeIn K cd44 "_law_reader" = true) (k44 : PySem.W.keepIn K (.ref f44) = true)
    (a45 : PySem.W.nsIn K mainGlobals "_law_draw" = some (some (.ref f45))) (l45 : K.lookup f45 = some ⟨oc45, od45, .func (PySem.W.fnOf "_law_draw" "_law_draw" (defArgs s__law_draw) (defBody s__law_draw) (defScope s__law_draw) .none kV45 dc45 pm45 an45 cd45 ct45), sl45⟩) (c45 : PySem.W.codeIn K cd45 "_law_draw" = true) (k45 : PySem.W.keepIn K (.ref f45) = true)
    (a46 : PySem.W.nsIn K mainGlobals "_law_fills" = some (some (.ref f46))) (l46 : K.lookup f46 = some ⟨oc46, od46, .func (PySem.W.fnOf "_law_fills" "_law_fills" (defArgs s__law_fills) (defBody s__law_fills) (defScope s__law_fills) .none kV46 dc46 pm46 an46 cd46 ct46), sl46⟩) (c46 : PySem.W.codeIn K cd46 "_law_fills" = true) (k46 : PySem.W.keepIn K (.ref f46) = true)
    (a47 : PySem.W.nsIn K mainGlobals "_law_trades" = some (some (.ref f47))) (l47 : K.lookup f47 = some ⟨oc47, od47, .func (PySem.W.fnOf "_law_trades" "_law_trades" (defArgs s__law_trades) (defBody s__law_trades) (defScope s__law_trades) .none kV47 dc47 pm47 an47 cd47 ct47), sl47⟩) (c47 : PySem.W.codeIn K cd47 "_law_trades" = true) (k47 : PySem.W.keepIn K (.ref f47) = true)
    (a48 : PySem.W.nsIn K mainGlobals "_law_rest" = some (some (.ref f48))) (l48 : K.lookup f48 = some ⟨oc48, od48, .func (PySem.W.fnOf "_law_rest" "_law_rest" (defArgs s__law_rest) (defBody s__law_rest) (defScope s__law_rest) .none kV48 dc48 pm48 an48 cd48 ct48), sl48⟩) (c48 : PySem.W.codeIn K cd48 "_law_rest" = true) (k48 : PySem.W.keepIn K (.ref f48) = true)
    (a49 : PySem.W.nsIn K mainGlobals "_law_orders" = some (some (.ref f49))) (l49 : K.lookup f49 = some ⟨oc49, od49, .func (PySem.W.fnOf "_law_orders" "_law_orders" (defArgs s__law_orders) (defBody s__law_orders) (defScope s__law_orders) .none kV49 dc49 pm49 an49 cd49 ct49), sl49⟩) (c49 : PySem.W.codeIn K cd49 "_law_orders" = true) (k49 : PySem.W.keepIn K (.ref f49) = true)
    (a50 : PySem.W.nsIn K mainGlobals "_law_open" = some (some (.ref f50))) (l50 : K.lookup f50 = some ⟨oc50, od50, .func (PySem.W.fnOf "_law_open" "_law_open" (defArgs s__law_open) (defBody s__law_open) (defScope s__law_open) .none kV50 dc50 pm50 an50 cd50 ct50), sl50⟩) (c50 : PySem.W.codeIn K cd50 "_law_open" = true) (k50 : PySem.W.keepIn K (.ref f50) = true)
    (a51 : PySem.W.nsIn K mainGlobals "_law_is_shut" = some (some (.ref f51))) (l51 : K.lookup f51 = some ⟨oc51, od51, .func (PySem.W.fnOf "_law_is_shut" "_law_is_shut" (defArgs s__law_is_shut) (defBody s__law_is_shut) (defScope s__law_is_shut) .none kV51 dc51 pm51 an51 cd51 ct51), sl51⟩) (c51 : PySem.W.codeIn K cd51 "_law_is_shut" = true) (k51 : PySem.W.keepIn K (.ref f51) = true)
    (a52 : PySem.W.nsIn K mainGlobals "_law_new_fills" = some (some (.ref f52))) (l52 : K.lookup f52 = some ⟨oc52, od52, .func (PySem.W.fnOf "_law_new_fills" "_law_new_fills" (defArgs s__law_new_fills) (defBody s__law_new_fills) (defScope s__law_new_fills) .none kV52 dc52 pm52 an52 cd52 ct52), sl52⟩) (c52 : PySem.W.codeIn K cd52 "_law_new_fills" = true) (k52 : PySem.W.keepIn K (.ref f52) = true)
    (a53 : PySem.W.nsIn K mainGlobals "_law_new_row" = some (some (.ref f53))) (l53 : K.lookup f53 = some ⟨oc53, od53, .func (PySem.W.fnOf "_law_new_row" "_law_new_row" (defArgs s__law_new_row) (defBody s__law_new_row) (defScope s__law_new_row) .none kV53 dc53 pm53 an53 cd53 ct53), sl53⟩) (c53 : PySem.W.codeIn K cd53 "_law_new_row" = true) (k53 : PySem.W.keepIn K (.ref f53) = true)
    (a54 : PySem.W.nsIn K mainGlobals "_law_random_rows" = some (some (.ref f54))) (l54 : K.lookup f54 = some ⟨oc54, od54, .func (PySem.W.fnOf "_law_random_rows" "_law_random_rows" (defArgs s__law_random_rows) (defBody s__law_random_rows) (defScope s__law_random_rows) .none kV54 dc54 pm54 an54 cd54 ct54), sl54⟩) (c54 : PySem.W.codeIn K cd54 "_law_random_rows" = true) (k54 : PySem.W.keepIn K (.ref f54) = true)
    (a55 : PySem.W.nsIn K mainGlobals "_law_random_record" = some (some (.ref f55))) (l55 : K.lookup f55 = some ⟨oc55, od55, .func (PySem.W.fnOf "_law_random_record" "_law_random_record" (defArgs s__law_random_record) (defBody s__law_random_record) (defScope s__law_random_record) .none kV55 dc55 pm55 an55 cd55 ct55), sl55⟩) (c55 : PySem.W.codeIn K cd55 "_law_random_record" = true) (k55 : PySem.W.keepIn K (.ref f55) = true)
    (a56 : PySem.W.nsIn K mainGlobals "_law_fixed_records" = some (some (.ref f56))) (l56 : K.lookup f56 = some ⟨oc56, od56, .func (PySem.W.fnOf "_law_fixed_records" "_law_fixed_records" (defArgs s__law_fixed_records) (defBody s__law_fixed_records) (defScope s__law_fixed_records) .none kV56 dc56 pm56 an56 cd56 ct56), sl56⟩) (c56 : PySem.W.codeIn K cd56 "_law_fixed_records" = true) (k56 : PySem.W.keepIn K (.ref f56) = true)
    (a57 : PySem.W.nsIn K mainGlobals "_law_groups" = some (some (.ref f57))) (l57 : K.lookup f57 = some ⟨oc57, od57, .func (PySem.W.fnOf "_law_groups" "_law_groups" (defArgs s__law_groups) (defBody s__law_groups) (defScope s__law_groups) .none kV57 dc57 pm57 an57 cd57 ct57), sl57⟩) (c57 : PySem.W.codeIn K cd57 "_law_groups" = true) (k57 : PySem.W.keepIn K (.ref f57) = true)
    (a58 : PySem.W.nsIn K mainGlobals "_law_check_view" = some (some (.ref f58))) (l58 : K.lookup f58 = some ⟨oc58, od58, .func (PySem.W.fnOf "_law_check_view" "_law_check_view" (defArgs s__law_check_view) (defBody s__law_check_view) (defScope s__law_check_view) .none kV58 dc58 pm58 an58 cd58 ct58), sl58⟩) (c58 : PySem.W.codeIn K cd58 "_law_check_view" = true) (k58 : PySem.W.keepIn K (.ref f58) = true)
    (a59 : PySem.W.nsIn K mainGlobals "_law_check_beginnings" = some (some (.ref f59))) (l59 : K.lookup f59 = some ⟨oc59, od59, .func (PySem.W.fnOf "_law_check_beginnings" "_law_check_beginnings" (defArgs s__law_check_beginnings) (defBody s__law_check_beginnings) (defScope s__law_check_beginnings) .none kV59 dc59 pm59 an59 cd59 ct59), sl59⟩) (c59 : PySem.W.codeIn K cd59 "_law_check_beginnings" = true) (k59 : PySem.W.keepIn K (.ref f59) = true)
    (a60 : PySem.W.nsIn K mainGlobals "law" = some (some (.ref f60))) (l60 : K.lookup f60 = some ⟨oc60, od60, .func (PySem.W.fnOf "law" "law" (defArgs s_law) (defBody s_law) (defScope s_law) .none kV60 dc60 pm60 an60 cd60 ct60), sl60⟩) (c60 : PySem.W.codeIn K cd60 "law" = true) (k60 : PySem.W.keepIn K (.ref f60) = true)
    (v0 : PySem.W.nsIn K mainGlobals "LETTERS" = some (some (.str "abcdefghijklmnopqrstuvwxyz" t0)))
    (v1 : PySem.W.nsIn K mainGlobals "LONGEST_NAME" = some (some (.int 8 t1)))
    (v2 : PySem.W.nsIn K mainGlobals "SIDES" = some (some (.ref q2))) (w2 : K.lookup q2 = some ⟨.type "tuple", dq2, .seq #[.str "buy" tq2_0, .str "sell" tq2_1] nq2, sq2⟩)
    (v3 : PySem.W.nsIn K mainGlobals "RULES" = some (some (.ref q3))) (w3 : K.lookup q3 = some ⟨.type "tuple", dq3, .seq #[.str "time" tq3_0, .str "late" tq3_1, .str "price" tq3_2] nq3, sq3⟩)
    (v4 : PySem.W.nsIn K mainGlobals "BUY" = some (some (.str "buy" t4)))
    (z0 : PySem.W.nsIn K mainGlobals "all" = some none)
    (z1 : PySem.W.nsIn K mainGlobals "bool" = some none)
    (z2 : PySem.W.nsIn K mainGlobals "enumerate" = some none)
    (z3 : PySem.W.nsIn K mainGlobals "int" = some none)
    (z4 : PySem.W.nsIn K mainGlobals "isinstance" = some none)
    (z5 : PySem.W.nsIn K mainGlobals "len" = some none)
    (z6 : PySem.W.nsIn K mainGlobals "list" = some none)
    (z7 : PySem.W.nsIn K mainGlobals "min" = some none)
    (z8 : PySem.W.nsIn K mainGlobals "range" = some none)
    (z9 : PySem.W.nsIn K mainGlobals "set" = some none)
    (z10 : PySem.W.nsIn K mainGlobals "sorted" = some none)
    (z11 : PySem.W.nsIn K mainGlobals "str" = some none)
    (z12 : PySem.W.nsIn K mainGlobals "sum" = some none)
    (z13 : PySem.W.nsIn K mainGlobals "tuple" = some none)
    (z14 : PySem.W.nsIn K mainGlobals "zip" = some none) : Txt K mg where
  f_is_integer := f0
  fd_is_integer := _
  F_is_integer := fun_mk l0 c0 k0
  g_is_integer := PySem.W.mg_of X G a0
  b_is_integer := (fun_mk (st := s_is_integer) l0 c0 k0).binds (ps := ["thing"]) fun _ _ _ _ _ _ us hl => match us, hl with | [_], _ => rfl
  f_is_number := f1
  fd_is_number := _
  F_is_number := fun_mk l1 c1 k1
  g_is_number := PySem.W.mg_of X G a1
  b_is_number := (fun_mk (st := s_is_number) l1 c1 k1).binds (ps := ["thing"]) fun _ _ _ _ _ _ us hl => match us, hl with | [_], _ => rfl
  f_is_size := f2
  fd_is_size := _
  F_is_size := fun_mk l2 c2 k2
  g_is_size := PySem.W.mg_of X G a2
  b_is_size := (fun_mk (st := s_is_size) l2 c2 k2).binds (ps := ["thing"]) fun _ _ _ _ _ _ us hl => match us, hl with | [_], _ => rfl
  f_is_name := f3
  fd_is_name := _
  F_is_name := fun_mk l3 c3 k3
  g_is_name := PySem.W.mg_of X G a3
  b_is_name := (fun_mk (st := s_is_name) l3 c3 k3).binds (ps := ["thing"]) fun _ _ _ _ _ _ us hl => match us, hl with | [_], _ => rfl
  f_is_side := f4
  fd_is_side := _
  F_is_side := fun_mk l4 c4 k4
  g_is_side := PySem.W.mg_of X G a4
  b_is_side := (fun_mk (st := s_is_side) l4 c4 k4).binds (ps := ["thing"]) fun _ _ _ _ _ _ us hl => match us, hl with | [_], _ => rfl
  f_is_rule := f5
  fd_is_rule := _
  F_is_rule := fun_mk l5 c5 k5
  g_is_rule := PySem.W.mg_of X G a5
  b_is_rule := (fun_mk (st := s_is_rule) l5 c5 k5).binds (ps := ["thing"]) fun _ _ _ _ _ _ us hl => match us, hl with | [_], _ => rfl
  f_is_fill := f6
  fd_is_fill := _
  F_is_fill := fun_mk l6 c6 k6
  g_is_fill := PySem.W.mg_of X G a6
  b_is_fill := (fun_mk (st := s_is_fill) l6 c6 k6).binds (ps := ["thing"]) fun _ _ _ _ _ _ us hl => match us, hl with | [_], _ => rfl
  f_are_fills := f7
  fd_are_fills := _
  F_are_fills := fun_mk l7 c7 k7
  g_are_fills := PySem.W.mg_of X G a7
  b_are_fills := (fun_mk (st := s_are_fills) l7 c7 k7).binds (ps := ["thing"]) fun _ _ _ _ _ _ us hl => match us, hl with | [_], _ => rfl
  f_is_pair := f8
  fd_is_pair := _
  F_is_pair := fun_mk l8 c8 k8
  g_is_pair := PySem.W.mg_of X G a8
  b_is_pair := (fun_mk (st := s_is_pair) l8 c8 k8).binds (ps := ["thing"]) fun _ _ _ _ _ _ us hl => match us, hl with | [_], _ => rfl
  f_are_pairs := f9
  fd_are_pairs := _
  F_are_pairs := fun_mk l9 c9 k9
  g_are_pairs := PySem.W.mg_of X G a9
  b_are_pairs := (fun_mk (st := s_are_pairs) l9 c9 k9).binds (ps := ["thing"]) fun _ _ _ _ _ _ us hl => match us, hl with | [_], _ => rfl
  f_is_order_row := f10
  fd_is_order_row := _
  F_is_order_row := fun_mk l10 c10 k10
  g_is_order_row := PySem.W.mg_of X G a10
  b_is_order_row := (fun_mk (st := s_is_order_row) l10 c10 k10).binds (ps := ["thing"]) fun _ _ _ _ _ _ us hl => match us, hl with | [_], _ => rfl
  f_is_call_row := f11
  fd_is_call_row := _
  F_is_call_row := fun_mk l11 c11 k11
  g_is_call_row := PySem.W.mg_of X G a11
  b_is_call_row := (fun_mk (st := s_is_call_row) l11 c11 k11).binds (ps := ["thing"]) fun _ _ _ _ _ _ us hl => match us, hl with | [_], _ => rfl
  f_is_row := f12
  fd_is_row := _
  F_is_row := fun_mk l12 c12 k12
  g_is_row := PySem.W.mg_of X G a12
  b_is_row := (fun_mk (st := s_is_row) l12 c12 k12).binds (ps := ["thing"]) fun _ _ _ _ _ _ us hl => match us, hl with | [_], _ => rfl
  f_fills_in := f13
  fd_fills_in := _
  F_fills_in := fun_mk l13 c13 k13
  g_fills_in := PySem.W.mg_of X G a13
  b_fills_in := (fun_mk (st := s_fills_in) l13 c13 k13).binds (ps := ["row"]) fun _ _ _ _ _ _ us hl => match us, hl with | [_], _ => rfl
  f_lots_in := f14
  fd_lots_in := _
  F_lots_in := fun_mk l14 c14 k14
  g_lots_in := PySem.W.mg_of X G a14
  b_lots_in := (fun_mk (st := s_lots_in) l14 c14 k14).binds (ps := ["rows", "n", "t", "fills"]) fun _ _ _ _ _ _ us hl => match us, hl with | [_, _, _, _], _ => rfl
  f_lots_before := f15
  fd_lots_before := _
  F_lots_before := fun_mk l15 c15 k15
  g_lots_before := PySem.W.mg_of X G a15
  b_lots_before := (fun_mk (st := s_lots_before) l15 c15 k15).binds (ps := ["rows", "n", "t", "i"]) fun _ _ _ _ _ _ us hl => match us, hl with | [_, _, _, _], _ => rfl
  f_rest_of := f16
  fd_rest_of := _
  F_rest_of := fun_mk l16 c16 k16
  g_rest_of := PySem.W.mg_of X G a16
  b_rest_of := (fun_mk (st := s_rest_of) l16 c16 k16).binds (ps := ["rows", "n", "t", "i"]) fun _ _ _ _ _ _ us hl => match us, hl with | [_, _, _, _], _ => rfl
  f_is_open := f17
  fd_is_open := _
  F_is_open := fun_mk l17 c17 k17
  g_is_open := PySem.W.mg_of X G a17
  b_is_open := (fun_mk (st := s_is_open) l17 c17 k17).binds (ps := ["rows", "n", "t", "i"]) fun _ _ _ _ _ _ us hl => match us, hl with | [_, _, _, _], _ => rfl
  f_is_shut := f18
  fd_is_shut := _
  F_is_shut := fun_mk l18 c18 k18
  g_is_shut := PySem.W.mg_of X G a18
  b_is_shut := (fun_mk (st := s_is_shut) l18 c18 k18).binds (ps := ["rows", "t"]) fun _ _ _ _ _ _ us hl => match us, hl with | [_, _], _ => rfl
  f_members_of := f19
  fd_members_of := _
  F_members_of := fun_mk l19 c19 k19
  g_members_of := PySem.W.mg_of X G a19
  b_members_of := (fun_mk (st := s_members_of) l19 c19 k19).binds (ps := ["record"]) fun _ _ _ _ _ _ us hl => match us, hl with | [_], _ => rfl
  f_orders_of := f20
  fd_orders_of := _
  F_orders_of := fun_mk l20 c20 k20
  g_orders_of := PySem.W.mg_of X G a20
  b_orders_of := (fun_mk (st := s_orders_of) l20 c20 k20).binds (ps := ["record"]) fun _ _ _ _ _ _ us hl => match us, hl with | [_], _ => rfl
  f_require_order := f21
  fd_require_order := _
  F_require_order := fun_mk l21 c21 k21
  g_require_order := PySem.W.mg_of X G a21
  b_require_order := (fun_mk (st := s_require_order) l21 c21 k21).binds (ps := ["record", "n"]) fun _ _ _ _ _ _ us hl => match us, hl with | [_, _], _ => rfl
  f_is_place := f22
  fd_is_place := _
  F_is_place := fun_mk l22 c22 k22
  g_is_place := PySem.W.mg_of X G a22
  b_is_place := (fun_mk (st := s_is_place) l22 c22 k22).binds (ps := ["record", "t", "i"]) fun _ _ _ _ _ _ us hl => match us, hl with | [_, _, _], _ => rfl
  f_require_place := f23
  fd_require_place := _
  F_require_place := fun_mk l23 c23 k23
  g_require_place := PySem.W.mg_of X G a23
  b_require_place := (fun_mk (st := s_require_place) l23 c23 k23).binds (ps := ["record", "t", "i"]) fun _ _ _ _ _ _ us hl => match us, hl with | [_, _, _], _ => rfl
  f_order_at := f24
  fd_order_at := _
  F_order_at := fun_mk l24 c24 k24
  g_order_at := PySem.W.mg_of X G a24
  b_order_at := (fun_mk (st := s_order_at) l24 c24 k24).binds (ps := ["record", "n"]) fun _ _ _ _ _ _ us hl => match us, hl with | [_, _], _ => rfl
  f_rest_at := f25
  fd_rest_at := _
  F_rest_at := (funD_mk (x := "rest_at") (qual := "rest_at") (st := s_rest_at) (dvs := [V.int 0]) (its := [.int 0 td25_0]) l25 m25 rfl (.cons ⟨_, rfl⟩ .nil) (by simp) c25 k25)
  g_rest_at := PySem.W.mg_of X G a25
  b_rest_at := binds_all (FunD.binds1 (funD_mk (x := "rest_at") (qual := "rest_at") (st := s_rest_at) (dvs := [V.int 0]) (its := [.int 0 td25_0]) l25 m25 rfl (.cons ⟨_, rfl⟩ .nil) (by simp) c25 k25) (ps := ["record", "n", "t", "i"]) 4 1 (by simp) rfl fun _ _ _ _ _ _ _ us its h1 h2 => match us, its, h1, h2 with | [_, _, _, _], [_], _, _ => ⟨_, rfl, rfl⟩)
  p_rest_at := FunD.binds1 (funD_mk (x := "rest_at") (qual := "rest_at") (st := s_rest_at) (dvs := [V.int 0]) (its := [.int 0 td25_0]) l25 m25 rfl (.cons ⟨_, rfl⟩ .nil) (by simp) c25 k25) (ps := ["record", "n", "t", "i"]) 3 0 (by simp) rfl fun _ _ _ _ _ _ _ us its h1 h2 => match us, its, h1, h2 with | [_, _, _], [_], _, _ => ⟨_, rfl, rfl⟩
  f_open_at := f26
  fd_open_at := _
  F_open_at := (funD_mk (x := "open_at") (qual := "open_at") (st := s_open_at) (dvs := [V.int 0]) (its := [.int 0 td26_0]) l26 m26 rfl (.cons ⟨_, rfl⟩ .nil) (by simp) c26 k26)
  g_open_at := PySem.W.mg_of X G a26
  b_open_at := binds_all (FunD.binds1 (funD_mk (x := "open_at") (qual := "open_at") (st := s_open_at) (dvs := [V.int 0]) (its := [.int 0 td26_0]) l26 m26 rfl (.cons ⟨_, rfl⟩ .nil) (by simp) c26 k26) (ps := ["record", "t", "i"]) 3 1 (by simp) rfl fun _ _ _ _ _ _ _ us its h1 h2 => match us, its, h1, h2 with | [_, _, _], [_], _, _ => ⟨_, rfl, rfl⟩)
  p_open_at := FunD.binds1 (funD_mk (x := "open_at") (qual := "open_at") (st := s_open_at) (dvs := [V.int 0]) (its := [.int 0 td26_0]) l26 m26 rfl (.cons ⟨_, rfl⟩ .nil) (by simp) c26 k26) (ps := ["record", "t", "i"]) 2 0 (by simp) rfl fun _ _ _ _ _ _ _ us its h1 h2 => match us, its, h1, h2 with | [_, _], [_], _, _ => ⟨_, rfl, rfl⟩
  f_prints_of := f27
  fd_prints_of := _
  F_prints_of := fun_mk l27 c27 k27
  g_prints_of := PySem.W.mg_of X G a27
  b_prints_of := (fun_mk (st := s_prints_of) l27 c27 k27).binds (ps := ["record"]) fun _ _ _ _ _ _ us hl => match us, hl with | [_], _ => rfl
  f_traded := f28
  fd_traded := _
  F_traded := fun_mk l28 c28 k28
  g_traded := PySem.W.mg_of X G a28
  b_traded := (fun_mk (st := s_traded) l28 c28 k28).binds (ps := ["record", "n"]) fun _ _ _ _ _ _ us hl => match us, hl with | [_, _], _ => rfl
  f_strange_fills := f29
  fd_strange_fills := _
  F_strange_fills := fun_mk l29 c29 k29
  g_strange_fills := PySem.W.mg_of X G a29
  b_strange_fills := (fun_mk (st := s_strange_fills) l29 c29 k29).binds (ps := ["fills", "own"]) fun _ _ _ _ _ _ us hl => match us, hl with | [_, _], _ => rfl
  f_seen_row := f30
  fd_seen_row := _
  F_seen_row := fun_mk l30 c30 k30
  g_seen_row := PySem.W.mg_of X G a30
  b_seen_row := (fun_mk (st := s_seen_row) l30 c30 k30).binds (ps := ["row", "t", "own"]) fun _ _ _ _ _ _ us hl => match us, hl with | [_, _, _], _ => rfl
  f_seen := f31
  fd_seen := _
  F_seen := fun_mk l31 c31 k31
  g_seen := PySem.W.mg_of X G a31
  b_seen := (fun_mk (st := s_seen) l31 c31 k31).binds (ps := ["record", "members"]) fun _ _ _ _ _ _ us hl => match us, hl with | [_, _], _ => rfl
  f_with_rule := f32
  fd_with_rule := _
  F_with_rule := fun_mk l32 c32 k32
  g_with_rule := PySem.W.mg_of X G a32
  b_with_rule := (fun_mk (st := s_with_rule) l32 c32 k32).binds (ps := ["record", "rule"]) fun _ _ _ _ _ _ us hl => match us, hl with | [_, _], _ => rfl
  f_cut := f33
  fd_cut := _
  F_cut := fun_mk l33 c33 k33
  g_cut := PySem.W.mg_of X G a33
  b_cut := (fun_mk (st := s_cut) l33 c33 k33).binds (ps := ["record", "t"]) fun _ _ _ _ _ _ us hl => match us, hl with | [_, _], _ => rfl
  f_require := f34
  fd_require := _
  F_require := fun_mk l34 c34 k34
  g_require := PySem.W.mg_of X G a34
  b_require := (fun_mk (st := s_require) l34 c34 k34).binds (ps := ["condition", "word", "at"]) fun _ _ _ _ _ _ us hl => match us, hl with | [_, _, _], _ => rfl
  f_has_shape := f35
  fd_has_shape := _
  F_has_shape := fun_mk l35 c35 k35
  g_has_shape := PySem.W.mg_of X G a35
  b_has_shape := (fun_mk (st := s_has_shape) l35 c35 k35).binds (ps := ["thing"]) fun _ _ _ _ _ _ us hl => match us, hl with | [_], _ => rfl
  f_is_within := f36
  fd_is_within := _
  F_is_within := fun_mk l36 c36 k36
  g_is_within := PySem.W.mg_of X G a36
  b_is_within := (fun_mk (st := s_is_within) l36 c36 k36).binds (ps := ["side", "limit", "price"]) fun _ _ _ _ _ _ us hl => match us, hl with | [_, _, _], _ => rfl
  f_check_closed := f37
  fd_check_closed := _
  F_check_closed := fun_mk l37 c37 k37
  g_check_closed := PySem.W.mg_of X G a37
  b_check_closed := (fun_mk (st := s_check_closed) l37 c37 k37).binds (ps := ["rows", "t"]) fun _ _ _ _ _ _ us hl => match us, hl with | [_, _], _ => rfl
  f_check_resting := f38
  fd_check_resting := _
  F_check_resting := fun_mk l38 c38 k38
  g_check_resting := PySem.W.mg_of X G a38
  b_check_resting := (fun_mk (st := s_check_resting) l38 c38 k38).binds (ps := ["rows", "t", "i"]) fun _ _ _ _ _ _ us hl => match us, hl with | [_, _, _], _ => rfl
  f_check_own := f39
  fd_check_own := _
  F_check_own := fun_mk l39 c39 k39
  g_check_own := PySem.W.mg_of X G a39
  b_check_own := (fun_mk (st := s_check_own) l39 c39 k39).binds (ps := ["rows", "t", "i"]) fun _ _ _ _ _ _ us hl => match us, hl with | [_, _, _], _ => rfl
  f_check_print := f40
  fd_check_print := _
  F_check_print := fun_mk l40 c40 k40
  g_check_print := PySem.W.mg_of X G a40
  b_check_print := (fun_mk (st := s_check_print) l40 c40 k40).binds (ps := ["rows", "t", "i"]) fun _ _ _ _ _ _ us hl => match us, hl with | [_, _, _], _ => rfl
  f_check_call := f41
  fd_check_call := _
  F_check_call := fun_mk l41 c41 k41
  g_check_call := PySem.W.mg_of X G a41
  b_check_call := (fun_mk (st := s_check_call) l41 c41 k41).binds (ps := ["rows", "t"]) fun _ _ _ _ _ _ us hl => match us, hl with | [_, _], _ => rfl
  f_check_row := f42
  fd_check_row := _
  F_check_row := fun_mk l42 c42 k42
  g_check_row := PySem.W.mg_of X G a42
  b_check_row := (fun_mk (st := s_check_row) l42 c42 k42).binds (ps := ["rows", "t"]) fun _ _ _ _ _ _ us hl => match us, hl with | [_, _], _ => rfl
  f_lets_record := f43
  fd_lets_record := _
  F_lets_record := fun_mk l43 c43 k43
  g_lets_record := PySem.W.mg_of X G a43
  b_lets_record := (fun_mk (st := s_lets_record) l43 c43 k43).binds (ps := ["thing"]) fun _ _ _ _ _ _ us hl => match us, hl with | [_], _ => rfl
  f__law_reader := f44
  fd__law_reader := _
  F__law_reader := fun_mk l44 c44 k44
  g__law_reader := PySem.W.mg_of X G a44
  b__law_reader := (fun_mk (st := s__law_reader) l44 c44 k44).binds (ps := ["_law_script"]) fun _ _ _ _ _ _ us hl => match us, hl with | [_], _ => rfl
  f__law_draw := f45
  fd__law_draw := _
  F__law_draw := fun_mk l45 c45 k45
  g__law_draw := PySem.W.mg_of X G a45
  b__law_draw := (fun_mk (st := s__law_draw) l45 c45 k45).binds (ps := ["_law_reader_here", "_law_many"]) fun _ _ _ _ _ _ us hl => match us, hl with | [_, _], _ => rfl
  f__law_fills := f46
  fd__law_fills := _
  F__law_fills := fun_mk l46 c46 k46
  g__law_fills := PySem.W.mg_of X G a46
  b__law_fills := (fun_mk (st := s__law_fills) l46 c46 k46).binds (ps := ["_law_row"]) fun _ _ _ _ _ _ us hl => match us, hl with | [_], _ => rfl
  f__law_trades := f47
  fd__law_trades := _
  F__law_trades := fun_mk l47 c47 k47
  g__law_trades := PySem.W.mg_of X G a47
  b__law_trades := (fun_mk (st := s__law_trades) l47 c47 k47).binds (ps := ["_law_rows", "_law_t", "_law_i"]) fun _ _ _ _ _ _ us hl => match us, hl with | [_, _, _], _ => rfl
  f__law_rest := f48
  fd__law_rest := _
  F__law_rest := fun_mk l48 c48 k48
  g__law_rest := PySem.W.mg_of X G a48
  b__law_rest := (fun_mk (st := s__law_rest) l48 c48 k48).binds (ps := ["_law_rows", "_law_n", "_law_t", "_law_i"]) fun _ _ _ _ _ _ us hl => match us, hl with | [_, _, _, _], _ => rfl
  f__law_orders := f49
  fd__law_orders := _
  F__law_orders := fun_mk l49 c49 k49
  g__law_orders := PySem.W.mg_of X G a49
  b__law_orders := (fun_mk (st := s__law_orders) l49 c49 k49).binds (ps := ["_law_rows"]) fun _ _ _ _ _ _ us hl => match us, hl with | [_], _ => rfl
  f__law_open := f50
  fd__law_open := _
  F__law_open := fun_mk l50 c50 k50
  g__law_open := PySem.W.mg_of X G a50
  b__law_open := (fun_mk (st := s__law_open) l50 c50 k50).binds (ps := ["_law_rows", "_law_t", "_law_i"]) fun _ _ _ _ _ _ us hl => match us, hl with | [_, _, _], _ => rfl
  f__law_is_shut := f51
  fd__law_is_shut := _
  F__law_is_shut := fun_mk l51 c51 k51
  g__law_is_shut := PySem.W.mg_of X G a51
  b__law_is_shut := (fun_mk (st := s__law_is_shut) l51 c51 k51).binds (ps := ["_law_rows", "_law_t"]) fun _ _ _ _ _ _ us hl => match us, hl with | [_, _], _ => rfl
  f__law_new_fills := f52
  fd__law_new_fills := _
  F__law_new_fills := fun_mk l52 c52 k52
  g__law_new_fills := PySem.W.mg_of X G a52
  b__law_new_fills := (fun_mk (st := s__law_new_fills) l52 c52 k52).binds (ps := ["_law_reader_here", "_law_rows", "_law_most", "_law_left", "_law_side", "_law_limit"]) fun _ _ _ _ _ _ us hl => match us, hl with | [_, _, _, _, _, _], _ => rfl
  f__law_new_row := f53
  fd__law_new_row := _
  F__law_new_row := fun_mk l53 c53 k53
  g__law_new_row := PySem.W.mg_of X G a53
  b__law_new_row := (fun_mk (st := s__law_new_row) l53 c53 k53).binds (ps := ["_law_reader_here", "_law_rows"]) fun _ _ _ _ _ _ us hl => match us, hl with | [_, _], _ => rfl
  f__law_random_rows := f54
  fd__law_random_rows := _
  F__law_random_rows := fun_mk l54 c54 k54
  g__law_random_rows := PySem.W.mg_of X G a54
  b__law_random_rows := (fun_mk (st := s__law_random_rows) l54 c54 k54).binds (ps := ["_law_reader_here", "_law_most"]) fun _ _ _ _ _ _ us hl => match us, hl with | [_, _], _ => rfl
  f__law_random_record := f55
  fd__law_random_record := _
  F__law_random_record := fun_mk l55 c55 k55
  g__law_random_record := PySem.W.mg_of X G a55
  b__law_random_record := (fun_mk (st := s__law_random_record) l55 c55 k55).binds (ps := ["_law_reader_here", "_law_most"]) fun _ _ _ _ _ _ us hl => match us, hl with | [_, _], _ => rfl
  f__law_fixed_records := f56
  fd__law_fixed_records := _
  F__law_fixed_records := fun_mk l56 c56 k56
  g__law_fixed_records := PySem.W.mg_of X G a56
  b__law_fixed_records := (fun_mk (st := s__law_fixed_records) l56 c56 k56).binds (ps := []) fun _ _ _ _ _ _ us hl => match us, hl with | [], _ => rfl
  f__law_groups := f57
  fd__law_groups := _
  F__law_groups := fun_mk l57 c57 k57
  g__law_groups := PySem.W.mg_of X G a57
  b__law_groups := (fun_mk (st := s__law_groups) l57 c57 k57).binds (ps := ["_law_some"]) fun _ _ _ _ _ _ us hl => match us, hl with | [_], _ => rfl
  f__law_check_view := f58
  fd__law_check_view := _
  F__law_check_view := fun_mk l58 c58 k58
  g__law_check_view := PySem.W.mg_of X G a58
  b__law_check_view := (fun_mk (st := s__law_check_view) l58 c58 k58).binds (ps := ["_law_good", "_law_some", "_law_way"]) fun _ _ _ _ _ _ us hl => match us, hl with | [_, _, _], _ => rfl
  f__law_check_beginnings := f59
  fd__law_check_beginnings := _
  F__law_check_beginnings := fun_mk l59 c59 k59
  g__law_check_beginnings := PySem.W.mg_of X G a59
  b__law_check_beginnings := (fun_mk (st := s__law_check_beginnings) l59 c59 k59).binds (ps := ["_law_good", "_law_some", "_law_way"]) fun _ _ _ _ _ _ us hl => match us, hl with | [_, _, _], _ => rfl
  f_law := f60
  fd_law := _
  F_law := fun_mk l60 c60 k60
  g_law := PySem.W.mg_of X G a60
  b_law := (fun_mk (st := s_law) l60 c60 k60).binds (ps := ["_law_script"]) fun _ _ _ _ _ _ us hl => match us, hl with | [_], _ => rfl
  t_LETTERS := t0
  g_LETTERS := PySem.W.mg_of X G v0
  t_LONGEST_NAME := t1
  g_LONGEST_NAME := PySem.W.mg_of X G v1
  g_SIDES := gtup_mk (xs := ["buy", "sell"]) (ts := [tq2_0, tq2_1]) (PySem.W.mg_of X G v2) w2 rfl rfl (by decide)
  g_RULES := gtup_mk (xs := ["time", "late", "price"]) (ts := [tq3_0, tq3_1, tq3_2]) (PySem.W.mg_of X G v3) w3 rfl rfl (by decide)
  t_BUY := t4
  g_BUY := PySem.W.mg_of X G v4
  n_all := PySem.W.mg_none_of X G z0
  n_bool := PySem.W.mg_none_of X G z1
  n_enumerate := PySem.W.mg_none_of X G z2
  n_int := PySem.W.mg_none_of X G z3
  n_isinstance := PySem.W.mg_none_of X G z4
  n_len := PySem.W.mg_none_of X G z5
  n_list := PySem.W.mg_none_of X G z6
  n_min := PySem.W.mg_none_of X G z7
  n_range := PySem.W.mg_none_of X G z8
  n_set := PySem.W.mg_none_of X G z9
  n_sorted := PySem.W.mg_none_of X G z10
  n_str := PySem.W.mg_none_of X G z11
  n_sum := PySem.W.mg_none_of X G z12
  n_tuple := PySem.W.mg_none_of X G z13
  n_zip := PySem.W.mg_none_of X G z14
  w_law := fun s v => .of_eq rfl
theorem use {K : PySem.W.Frag} {mg : Str → Option Value} {C : Prop} (T : Txt K mg) (h : Txt K mg → C) : C := h T
end K7
open PySem PySem.W PyProof.Rows
set_option maxHeartbeats 0 in
theorem PySem.Challenge.cw_fairshown_k07_whole_views_holds : PySem.Challenge.rw_fairshown_k07_whole_views.Holds := by
  w_on; o_law; k_head; (case hw => w_witness2)
  k_fill
  refine FS.walk_ofG (l := PySem.Challenge.rw_fairshown_k07_whole_views) (n := 63) (k := 10) (x := "_law_script") (F := K7.F_law) rfl (by decide) rfl ⟨rfl, by decide, by decide⟩ (fun w h Y => PySem.W.kIn_of Y) ?F K7.law_true
  case F =>
    intro w mg fa h KX G hmg
    refine' K7.use (K7.all_mk KX G ?a0 ?l0 ?c0 ?k0 ?a1 ?l1 ?c1 ?k1 ?a2 ?l2 ?c2 ?k2 ?a3 ?l3 ?c3 ?k3 ?a4 ?l4 ?c4 ?k4 ?a5 ?l5 ?c5 ?k5 ?a6 ?l6 ?c6 ?k6 ?a7 ?l7 ?c7 ?k7 ?a8 ?l8 ?c8 ?k8 ?a9 ?l9 ?c9 ?k9 ?a10 ?l10 ?c10 ?k10 ?a11 ?l11 ?c11 ?k11 ?a12 ?l12 ?c12 ?k12 ?a13 ?l13 ?c13 ?k13 ?a14 ?l14 ?c14 ?k14 ?a15 ?l15 ?c15 ?k15 ?a16 ?l16 ?c16 ?k16 ?a17 ?l17 ?c17 ?k17 ?a18 ?l18 ?c18 ?k18 ?a19 ?l19 ?c19 ?k19 ?a20 ?l20 ?c20 ?k20 ?a21 ?l21 ?c21 ?k21 ?a22 ?l22 ?c22 ?k22 ?a23 ?l23 ?c23 ?k23 ?a24 ?l24 ?c24 ?k24 ?a25 ?l25 ?c25 ?k25 ?m25 ?a26 ?l26 ?c26 ?k26 ?m26 ?a27 ?l27 ?c27 ?k27 ?a28 ?l28 ?c28 ?k28 ?a29 ?l29 ?c29 ?k29 ?a30 ?l30 ?c30 ?k30 ?a31 ?l31 ?c31 ?k31 ?a32 ?l32 ?c32 ?k32 ?a33 ?l33 ?c33 ?k33 ?a34 ?l34 ?c34 ?k34 ?a35 ?l35 ?c35 ?k35 ?a36 ?l36 ?c36 ?k36 ?a37 ?l37 ?c37 ?k37 ?a38 ?l38 ?c38 ?k38 ?a39 ?l39 ?c39 ?k39 ?a40 ?l40 ?c40 ?k40 ?a41 ?l41 ?c41 ?k41 ?a42 ?l42 ?c42 ?k42 ?a43 ?l43 ?c43 ?k43 ?a44 ?l44 ?c44 ?k44 ?a45 ?l45 ?c45 ?k45 ?a46 ?l46 ?c46 ?k46 ?a47 ?l47 ?c47 ?k47 ?a48 ?l48 ?c48 ?k48 ?a49 ?l49 ?c49 ?k49 ?a50 ?l50 ?c50 ?k50 ?a51 ?l51 ?c51 ?k51 ?a52 ?l52 ?c52 ?k52 ?a53 ?l53 ?c53 ?k53 ?a54 ?l54 ?c54 ?k54 ?a55 ?l55 ?c55 ?k55 ?a56 ?l56 ?c56 ?k56 ?a57 ?l57 ?c57 ?k57 ?a58 ?l58 ?c58 ?k58 ?a59 ?l59 ?c59 ?k59 ?a60 ?l60 ?c60 ?k60 ?v0 ?v1 ?v2 ?w2 ?v3 ?w3 ?v4 ?z0 ?z1 ?z2 ?z3 ?z4 ?z5 ?z6 ?z7 ?z8 ?z9 ?z10 ?z11 ?z12 ?z13 ?z14) ?body
    (case a0 => k_is)
    (case l0 => k_is)
    (case c0 => k_is)
    (case k0 => k_is)
    (case a1 => k_is)
    (case l1 => k_is)
    (case c1 => k_is)
    (case k1 => k_is)
    (case a2 => k_is)
    (case l2 => k_is)
    (case c2 => k_is)
    (case k2 => k_is)
    (case a3 => k_is)
    (case l3 => k_is)
    (case c3 => k_is)
    (case k3 => k_is)
    (case a4 => k_is)
    (case l4 => k_is)
    (case c4 => k_is)
    (case k4 => k_is)
    (case a5 => k_is)
    (case l5 => k_is)
    (case c5 => k_is)
    (case k5 => k_is)
    (case a6 => k_is)
    (case l6 => k_is)
    (case c6 => k_is)
    (case k6 => k_is)
    (case a7 => k_is)
    (case l7 => k_is)
    (case c7 => k_is)
    (case k7 => k_is)
    (case a8 => k_is)
    (case l8 => k_is)
    (case c8 => k_is)
    (case k8 => k_is)
    (case a9 => k_is)
    (case l9 => k_is)
    (case c9 => k_is)
    (case k9 => k_is)
    (case a10 => k_is)
    (case l10 => k_is)
    (case c10 => k_is)
    (case k10 => k_is)
    (case a11 => k_is)
    (case l11 => k_is)
    (case c11 => k_is)
    (case k11 => k_is)
    (case a12 => k_is)
    (case l12 => k_is)
    (case c12 => k_is)
    (case k12 => k_is)
    (case a13 => k_is)
    (case l13 => k_is)
    (case c13 => k_is)
    (case k13 => k_is)
    (case a14 => k_is)
    (case l14 => k_is)
    (case c14 => k_is)
    (case k14 => k_is)
    (case a15 => k_is)
    (case l15 => k_is)
    (case c15 => k_is)
    (case k15 => k_is)
    (case a16 => k_is)
    (case l16 => k_is)
    (case c16 => k_is)
    (case k16 => k_is)
    (case a17 => k_is)
    (case l17 => k_is)
    (case c17 => k_is)
    (case k17 => k_is)
    (case a18 => k_is)
    (case l18 => k_is)
    (case c18 => k_is)
    (case k18 => k_is)
    (case a19 => k_is)
    (case l19 => k_is)
    (case c19 => k_is)
    (case k19 => k_is)
    (case a20 => k_is)
    (case l20 => k_is)
    (case c20 => k_is)
    (case k20 => k_is)
    (case a21 => k_is)
    (case l21 => k_is)
    (case c21 => k_is)
    (case k21 => k_is)
    (case a22 => k_is)
    (case l22 => k_is)
    (case c22 => k_is)
    (case k22 => k_is)
    (case a23 => k_is)
    (case l23 => k_is)
    (case c23 => k_is)
    (case k23 => k_is)
    (case a24 => k_is)
    (case l24 => k_is)
    (case c24 => k_is)
    (case k24 => k_is)
    (case a25 => k_is)
    (case l25 => k_is)
    (case c25 => k_is)
    (case k25 => k_is)
    (case m25 => k_is)
    (case a26 => k_is)
    (case l26 => k_is)
    (case c26 => k_is)
    (case k26 => k_is)
    (case m26 => k_is)
    (case a27 => k_is)
    (case l27 => k_is)
    (case c27 => k_is)
    (case k27 => k_is)
    (case a28 => k_is)
    (case l28 => k_is)
    (case c28 => k_is)
    (case k28 => k_is)
    (case a29 => k_is)
    (case l29 => k_is)
    (case c29 => k_is)
    (case k29 => k_is)
    (case a30 => k_is)
    (case l30 => k_is)
    (case c30 => k_is)
    (case k30 => k_is)
    (case a31 => k_is)
    (case l31 => k_is)
    (case c31 => k_is)
    (case k31 => k_is)
    (case a32 => k_is)
    (case l32 => k_is)
    (case c32 => k_is)
    (case k32 => k_is)
    (case a33 => k_is)
    (case l33 => k_is)
    (case c33 => k_is)
    (case k33 => k_is)
    (case a34 => k_is)
    (case l34 => k_is)
    (case c34 => k_is)
    (case k34 => k_is)
    (case a35 => k_is)
    (case l35 => k_is)
    (case c35 => k_is)
    (case k35 => k_is)
    (case a36 => k_is)
    (case l36 => k_is)
    (case c36 => k_is)
    (case k36 => k_is)
    (case a37 => k_is)
    (case l37 => k_is)
    (case c37 => k_is)
    (case k37 => k_is)
    (case a38 => k_is)
    (case l38 => k_is)
    (case c38 => k_is)
    (case k38 => k_is)
    (case a39 => k_is)
    (case l39 => k_is)
    (case c39 => k_is)
    (case k39 => k_is)
    (case a40 => k_is)
    (case l40 => k_is)
    (case c40 => k_is)
    (case k40 => k_is)
    (case a41 => k_is)
    (case l41 => k_is)
    (case c41 => k_is)
    (case k41 => k_is)
    (case a42 => k_is)
    (case l42 => k_is)
    (case c42 => k_is)
    (case k42 => k_is)
    (case a43 => k_is)
    (case l43 => k_is)
    (case c43 => k_is)
    (case k43 => k_is)
    (case a44 => k_is)
    (case l44 => k_is)
    (case c44 => k_is)
    (case k44 => k_is)
    (case a45 => k_is)
    (case l45 => k_is)
    (case c45 => k_is)
    (case k45 => k_is)
    (case a46 => k_is)
    (case l46 => k_is)
    (case c46 => k_is)
    (case k46 => k_is)
    (case a47 => k_is)
    (case l47 => k_is)
    (case c47 => k_is)
    (case k47 => k_is)
    (case a48 => k_is)
    (case l48 => k_is)
    (case c48 => k_is)
    (case k48 => k_is)
    (case a49 => k_is)
    (case l49 => k_is)
    (case c49 => k_is)
    (case k49 => k_is)
    (case a50 => k_is)
    (case l50 => k_is)
    (case c50 => k_is)
    (case k50 => k_is)
    (case a51 => k_is)
    (case l51 => k_is)
    (case c51 => k_is)
    (case k51 => k_is)
    (case a52 => k_is)
    (case l52 => k_is)
    (case c52 => k_is)
    (case k52 => k_is)
    (case a53 => k_is)
    (case l53 => k_is)
    (case c53 => k_is)
    (case k53 => k_is)
    (case a54 => k_is)
    (case l54 => k_is)
    (case c54 => k_is)
    (case k54 => k_is)
    (case a55 => k_is)
    (case l55 => k_is)
    (case c55 => k_is)
    (case k55 => k_is)
    (case a56 => k_is)
    (case l56 => k_is)
    (case c56 => k_is)
    (case k56 => k_is)
    (case a57 => k_is)
    (case l57 => k_is)
    (case c57 => k_is)
    (case k57 => k_is)
    (case a58 => k_is)
    (case l58 => k_is)
    (case c58 => k_is)
    (case k58 => k_is)
    (case a59 => k_is)
    (case l59 => k_is)
    (case c59 => k_is)
    (case k59 => k_is)
    (case a60 => k_is)
    (case l60 => k_is)
    (case c60 => k_is)
    (case k60 => k_is)
    (case v0 => k_is)
    (case v1 => k_is)
    (case v2 => k_is)
    (case w2 => k_is)
    (case v3 => k_is)
    (case w3 => k_is)
    (case v4 => k_is)
    (case z0 => k_is)
    (case z1 => k_is)
    (case z2 => k_is)
    (case z3 => k_is)
    (case z4 => k_is)
    (case z5 => k_is)
    (case z6 => k_is)
    (case z7 => k_is)
    (case z8 => k_is)
    (case z9 => k_is)
    (case z10 => k_is)
    (case z11 => k_is)
    (case z12 => k_is)
    (case z13 => k_is)
    (case z14 => k_is)
    intro T
    have e := hmg.symm.trans T.g_law
    cases e
    exact ⟨T.fd_law, T.w_law, fun base _ _ => K7.ok_law T⟩
