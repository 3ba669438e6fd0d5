import PyProof.Rows.All
import Wide.All
import OpenK.AllK
import Wide.FinOn
import HandS.ForMost
import HandS.FStr
import PyProof.RulesMatch
import HandS.TupAny
import HandS.More
import HandS.TupMul
import HandS.Iter
import HandS.Text
import PyProof.ReprRoads
import HandS.Star
import PySem.Challenge.RW_fairshown_k08_texts_written
set_option Elab.async false
set_option linter.all false
set_option maxRecDepth 100000
set_option maxHeartbeats 4000000
/-! FS: a layer of pure data over the hand layer: a def's worth is a Lean function of data and of a small store. -/
namespace FS
open PySem PySem.Spec PyProof.Rows L2

/-- data: lists that are only read are data too; what is changed stands in the store, by its number -/
inductive D where
  | non | bl (b : Bool) | int (i : Int) | str (x : Str) | tup (xs : List D) | lst (xs : List D) | scr (xs : List D) | ref (n : Nat)
/-- what may change -/
inductive MO where
  | lst (xs : List D) | dct (kvs : List (Key × D))
abbrev Sto := List MO
abbrev Rho := List (Option D)

/-- the written part; the addresses at which no data may lie (lists in the making) -/
structure KR where
  k : PySem.W.Frag
  rs : Addr → Prop
section
variable (K : KR) (ι : Nat → Addr) (N : Nat) (H : Hp)
def RdL (a : Addr) (vs : List V) : Prop := H a = some (.lst vs) ∧ (∀ m, m < N → ι m ≠ a) ∧ ¬ K.rs a
/-- a list that was given (the script) -/
def RdS (a : Addr) (vs : List V) : Prop := (∃ o, H a = some (.frz o (.lst vs))) ∨
    ∃ (o : Obj) (its : Array Value) (n : Nat), K.k.lookup a = some o ∧ o.cls = .type "list" ∧ o.dict = none ∧ o.data = .seq its n ∧ its.size ≤ sizeLine ∧ Vals vs its.toList
mutual
/-- the value v is the data d -/
inductive At : D → V → Prop
  | non : At .non .non
  | bl (b : Bool) : At (.bl b) (.bl b)
  | int (i : Int) : At (.int i) (.int i)
  | str (x : Str) : At (.str x) (.str x)
  | tup {ds : List D} {a : Addr} {vs : List V} (h : SqT K.k H a vs) (z : vs.length ≤ sizeLine) (l : AtL ds vs) : At (.tup ds) (.ref a)
  | lst {ds : List D} {a : Addr} {vs : List V} (h : RdL K ι N H a vs) (z : vs.length ≤ sizeLine) (l : AtL ds vs) : At (.lst ds) (.ref a)
  | scr {ds : List D} {a : Addr} {vs : List V} (h : RdS K H a vs) (z : vs.length ≤ sizeLine) (l : AtL ds vs) : At (.scr ds) (.ref a)
  | ref {n : Nat} (h : n < N) : At (.ref n) (.ref (ι n))
inductive AtL : List D → List V → Prop
  | nil : AtL [] []
  | cons {d : D} {v : V} {ds : List D} {vs : List V} (h : At d v) (t : AtL ds vs) : AtL (d :: ds) (v :: vs)
end
def KAt : List (Key × D) → List (Key × V) → Prop := Paired fun p q => p.1 = q.1 ∧ At K ι N H p.2 q.2
def MAt (a : Addr) : MO → Prop
  | .lst ds => ∃ vs, H a = some (.lst vs) ∧ AtL K ι N H ds vs ∧ vs.length ≤ sizeLine
  | .dct kvs => ∃ kws, H a = some (.dK kws) ∧ KAt K ι N H kvs kws ∧ kws.length ≤ sizeLine
end
theorem RdL.sq {K : KR} {ι : Nat → Addr} {N : Nat} {H : Hp} {a : Addr} {vs : List V} (h : RdL K ι N H a vs) : SqL K.k H a vs := .of h.1
theorem RdS.sq {K : KR} {H : Hp} {a : Addr} {vs : List V} (h : RdS K H a vs) : SqL K.k H a vs := by
  rcases h with ⟨o, h⟩ | h
  · exact .inl (.inr ⟨o, h⟩)
  · exact .inr h
structure Rel (K : KR) (ι : Nat → Addr) (S : Sto) (H : Hp) : Prop where
  inj : ∀ m n, m < S.length → n < S.length → ι m = ι n → m = n
  obj : ∀ n o, S[n]? = some o → MAt K ι S.length H (ι n) o
  res : ∀ a, K.rs a → ∃ o, H a = some o
structure Ext (ι : Nat → Addr) (N : Nat) (H : Hp) (ι' : Nat → Addr) (N' : Nat) (H' : Hp) : Prop where
  le : N ≤ N'
  eqi : ∀ m, m < N → ι' m = ι m
  new : ∀ m, N ≤ m → m < N' → H (ι' m) = none
  keep : ∀ a o, H a = some o → (∀ m, m < N → ι m ≠ a) → H' a = some o
  live : ∀ a o, H a = some o → ∃ o', H' a = some o'
section
variable {K K0 : KR} {ι ι' ι'' : Nat → Addr} {S S' : Sto} {N N' N'' : Nat} {H H' H'' : Hp}
theorem MAt.kinds {a : Addr} {o : MO} (h : MAt K ι N H a o) : (∃ vs, H a = some (.lst vs)) ∨ ∃ kws, H a = some (.dK kws) := by
  cases o with
  | lst ds => obtain ⟨vs, e, _⟩ := h; exact .inl ⟨vs, e⟩
  | dct kvs => obtain ⟨vs, e, _⟩ := h; exact .inr ⟨vs, e⟩
theorem Rel.there (R : Rel K ι S H) {m : Nat} (h : m < S.length) : (∃ vs, H (ι m) = some (.lst vs)) ∨ ∃ kws, H (ι m) = some (.dK kws) :=
  (R.obj m _ (List.getElem?_eq_getElem h)).kinds
theorem Rel.ne_none (R : Rel K ι S H) {p : Addr} (hp : H p = none) : ∀ m, m < S.length → ι m ≠ p := by
  intro m h e
  rcases R.there h with ⟨vs, q⟩ | ⟨vs, q⟩ <;> (rw [e, hp] at q; cases q)
theorem Ext.refl : Ext ι N H ι N H := ⟨Nat.le_refl _, fun _ _ => rfl, fun m a b => absurd b (Nat.not_lt.mpr a), fun _ _ h _ => h, fun _ o h => ⟨o, h⟩⟩
theorem Ext.unmade (E : Ext ι N H ι' N' H') {a : Addr} (h : H' a = none) : H a = none := by
  cases e : H a with
  | none => rfl
  | some o => obtain ⟨o', q⟩ := E.live a o e; rw [h] at q; cases q
theorem Ext.trans (a : Ext ι N H ι' N' H') (b : Ext ι' N' H' ι'' N'' H'') : Ext ι N H ι'' N'' H'' where
  le := Nat.le_trans a.le b.le
  eqi := fun m h => (b.eqi m (Nat.lt_of_lt_of_le h a.le)).trans (a.eqi m h)
  new := fun m h1 h2 => by
    by_cases hm : m < N'
    · rw [b.eqi m hm]; exact a.new m h1 hm
    · exact a.unmade (b.new m (Nat.le_of_not_lt hm) h2)
  keep := fun c o h hn => b.keep c o (a.keep c o h hn) fun m hm e => by
    by_cases hk : m < N
    · exact hn m hk ((a.eqi m hk).symm.trans e)
    · have q := a.new m (Nat.le_of_not_lt hk) hm
      rw [e, h] at q; cases q
  live := fun c o h => let ⟨o', q⟩ := a.live c o h; b.live c o' q
theorem Rel.notup (R : Rel K ι S H) {a : Addr} {o : HO} (h : H a = some o) (h1 : ∀ vs, o ≠ .lst vs) (h2 : ∀ ks, o ≠ .dK ks) : ∀ m, m < S.length → ι m ≠ a := by
  intro m hm e
  rcases R.there hm with ⟨vs, q⟩ | ⟨vs, q⟩
  · rw [e, h] at q; cases q; exact h1 _ rfl
  · rw [e, h] at q; cases q; exact h2 _ rfl
theorem sqT_mono (R : Rel K0 ι S H) (E : Ext ι S.length H ι' N' H') {a : Addr} {vs : List V} (h : SqT K.k H a vs) : SqT K.k H' a vs := by
  rcases h with (h | ⟨o, h⟩) | h
  · exact .inl (.inl (E.keep a _ h (R.notup h (fun _ z => by cases z) fun _ z => by cases z)))
  · exact .inl (.inr ⟨o, E.keep a _ h (R.notup h (fun _ z => by cases z) fun _ z => by cases z)⟩)
  · exact .inr h
theorem rdL_mono (E : Ext ι N H ι' N' H') {a : Addr} {vs : List V} (h : RdL K ι N H a vs) : RdL K ι' N' H' a vs := by
  refine ⟨E.keep a _ h.1 h.2.1, fun m hm e => ?_, h.2.2⟩
  by_cases hk : m < N
  · exact h.2.1 m hk ((E.eqi m hk).symm.trans e)
  · have q := E.new m (Nat.le_of_not_lt hk) hm
    rw [e, h.1] at q; cases q
theorem rdS_mono (R : Rel K0 ι S H) (E : Ext ι S.length H ι' N' H') {a : Addr} {vs : List V} (h : RdS K H a vs) : RdS K H' a vs := by
  rcases h with ⟨o, h⟩ | h
  · exact .inl ⟨o, E.keep a _ h (R.notup h (fun _ z => by cases z) fun _ z => by cases z)⟩
  · exact .inr h
mutual
theorem At.mono (R : Rel K0 ι S H) (E : Ext ι S.length H ι' N' H') : ∀ {d : D} {v : V}, At K ι S.length H d v → At K ι' N' H' d v
  | _, _, .non => .non
  | _, _, .bl b => .bl b
  | _, _, .int i => .int i
  | _, _, .str x => .str x
  | _, _, .tup h z l => .tup (sqT_mono R E h) z (AtL.mono R E l)
  | _, _, .lst h z l => .lst (rdL_mono E h) z (AtL.mono R E l)
  | _, _, .scr h z l => .scr (rdS_mono R E h) z (AtL.mono R E l)
  | _, _, .ref (n := n) h => by
    rw [← E.eqi n h]
    exact .ref (Nat.lt_of_lt_of_le h E.le)
theorem AtL.mono (R : Rel K0 ι S H) (E : Ext ι S.length H ι' N' H') : ∀ {ds : List D} {vs : List V}, AtL K ι S.length H ds vs → AtL K ι' N' H' ds vs
  | _, _, .nil => .nil
  | _, _, .cons h t => .cons (At.mono R E h) (AtL.mono R E t)
end
mutual
theorem At.wide {rs' : Addr → Prop} (w : ∀ a o, H a = some o → rs' a → K.rs a) : ∀ {d : D} {v : V}, At K ι N H d v → At ⟨K.k, rs'⟩ ι N H d v
  | _, _, .non => .non
  | _, _, .bl b => .bl b
  | _, _, .int i => .int i
  | _, _, .str x => .str x
  | _, _, .tup h z l => .tup h z (AtL.wide w l)
  | _, _, .lst h z l => .lst ⟨h.1, h.2.1, fun q => h.2.2 (w _ _ h.1 q)⟩ z (AtL.wide w l)
  | _, _, .scr h z l => .scr h z (AtL.wide w l)
  | _, _, .ref h => .ref h
theorem AtL.wide {rs' : Addr → Prop} (w : ∀ a o, H a = some o → rs' a → K.rs a) : ∀ {ds : List D} {vs : List V}, AtL K ι N H ds vs → AtL ⟨K.k, rs'⟩ ι N H ds vs
  | _, _, .nil => .nil
  | _, _, .cons h t => .cons (At.wide w h) (AtL.wide w t)
end
theorem KAt.wide {rs' : Addr → Prop} (w : ∀ a o, H a = some o → rs' a → K.rs a) {kvs : List (Key × D)} {kws : List (Key × V)} (h : KAt K ι N H kvs kws) : KAt ⟨K.k, rs'⟩ ι N H kvs kws :=
  Paired.mapP h fun _ _ q => ⟨q.1, q.2.wide w⟩
theorem MAt.wide {rs' : Addr → Prop} (w : ∀ a o, H a = some o → rs' a → K.rs a) {a : Addr} : ∀ {o : MO}, MAt K ι N H a o → MAt ⟨K.k, rs'⟩ ι N H a o
  | .lst _, ⟨vs, h1, h2, h3⟩ => ⟨vs, h1, h2.wide w, h3⟩
  | .dct _, ⟨vs, h1, h2, h3⟩ => ⟨vs, h1, h2.wide w, h3⟩
theorem AtL.length : ∀ {ds : List D} {vs : List V}, AtL K ι N H ds vs → ds.length = vs.length
  | _, _, .nil => rfl
  | _, _, .cons _ t => by simp [AtL.length t]
theorem AtL.get : ∀ {ds : List D} {vs : List V} {i : Nat} {d : D}, AtL K ι N H ds vs → ds[i]? = some d → ∃ v, vs[i]? = some v ∧ At K ι N H d v
  | _, _, 0, _, .cons h _, e => by simp at e; subst e; exact ⟨_, rfl, h⟩
  | _, _, i + 1, _, .cons _ t, e => by
    obtain ⟨v, h1, h2⟩ := AtL.get (i := i) t (by simpa using e)
    exact ⟨v, by simpa using h1, h2⟩
  | _, _, _, _, .nil, e => by simp at e
theorem AtL.append : ∀ {ds es : List D} {vs ws : List V}, AtL K ι N H ds vs → AtL K ι N H es ws → AtL K ι N H (ds ++ es) (vs ++ ws)
  | _, _, _, _, .nil, s => s
  | _, _, _, _, .cons h t, s => .cons h (AtL.append t s)
theorem AtL.take : ∀ {ds : List D} {vs : List V} (n : Nat), AtL K ι N H ds vs → AtL K ι N H (ds.take n) (vs.take n)
  | _, _, 0, _ => .nil
  | _, _, _ + 1, .nil => .nil
  | _, _, n + 1, .cons h t => .cons h (AtL.take n t)
theorem AtL.drop : ∀ {ds : List D} {vs : List V} (n : Nat), AtL K ι N H ds vs → AtL K ι N H (ds.drop n) (vs.drop n)
  | _, _, 0, r => r
  | _, _, _ + 1, .nil => .nil
  | _, _, n + 1, .cons _ t => AtL.drop n t
theorem KAt.mono (R : Rel K0 ι S H) (E : Ext ι S.length H ι' N' H') {kvs : List (Key × D)} {kws : List (Key × V)} (h : KAt K ι S.length H kvs kws) : KAt K ι' N' H' kvs kws :=
  Paired.mapP h fun _ _ q => ⟨q.1, q.2.mono R E⟩
theorem MAt.mono (R : Rel K0 ι S H) (E : Ext ι S.length H ι' N' H') {a a' : Addr} {o : MO} (h : MAt K ι S.length H a o) (e : H' a' = H a) : MAt K ι' N' H' a' o := by
  cases o with
  | lst ds => obtain ⟨vs, h1, h2, h3⟩ := h; exact ⟨vs, e.trans h1, h2.mono R E, h3⟩
  | dct kvs => obtain ⟨vs, h1, h2, h3⟩ := h; exact ⟨vs, e.trans h1, h2.mono R E, h3⟩
/-! ### the steps -/
theorem Ext.fresh {p : Addr} {o : HO} (hp : H p = none) : Ext ι N H ι N (upd H p o) :=
  ⟨Nat.le_refl _, fun _ _ => rfl, fun m a b => absurd b (Nat.not_lt.mpr a), fun a u h _ => by rw [upd_ne (ne_of_none h hp)]; exact h, fun a u h => ⟨u, by rw [upd_ne (ne_of_none h hp)]; exact h⟩⟩
theorem Rel.fresh (R : Rel K ι S H) {p : Addr} {o : HO} (hp : H p = none) : Rel K ι S (upd H p o) :=
  ⟨R.inj, fun n u e => (R.obj n u e).mono R (Ext.fresh hp) (by rw [upd_ne (R.ne_none hp n (List.getElem?_eq_some_iff.mp e).1)]), fun a h => let ⟨u, q⟩ := R.res a h; (Ext.fresh (ι := ι) (N := 0) hp).live a u q⟩
theorem Rel.free (R : Rel K ι S H) {p : Addr} (hp : H p = none) : ¬ K.rs p := fun h => by
  obtain ⟨u, q⟩ := R.res p h
  rw [hp] at q; cases q
def bump (ι : Nat → Addr) (N : Nat) (p : Addr) : Nat → Addr := fun m => if m = N then p else ι m
theorem bump_at {p : Addr} : bump ι N p N = p := if_pos rfl
theorem bump_lt {p : Addr} {m : Nat} (h : m < N) : bump ι N p m = ι m := if_neg (Nat.ne_of_lt h)
theorem Ext.made {p : Addr} {o : HO} (hp : H p = none) : Ext ι N H (bump ι N p) (N + 1) (upd H p o) :=
  ⟨Nat.le_succ _, fun _ h => bump_lt h, fun m a b => by rw [show m = N by omega, bump_at]; exact hp, fun a u h _ => by rw [upd_ne (ne_of_none h hp)]; exact h, fun a u h => ⟨u, by rw [upd_ne (ne_of_none h hp)]; exact h⟩⟩
theorem Rel.made (R : Rel K ι S H) {p : Addr} {o : HO} {u : MO} (hp : H p = none) (hu : MAt K (bump ι S.length p) (S.length + 1) (upd H p o) p u) : Rel K (bump ι S.length p) (S ++ [u]) (upd H p o) := by
  refine ⟨fun m n hm hn e => ?_, fun n x e => ?_, fun a h => let ⟨w, q⟩ := R.res a h; (Ext.made (ι := ι) (N := 0) hp).live a w q⟩
  · rw [List.length_append, List.length_singleton] at hm hn
    by_cases h1 : m < S.length
    · by_cases h2 : n < S.length
      · rw [bump_lt h1, bump_lt h2] at e; exact R.inj m n h1 h2 e
      · rw [bump_lt h1, show n = S.length by omega, bump_at] at e
        exact absurd e (R.ne_none hp m h1)
    · by_cases h2 : n < S.length
      · rw [bump_lt h2, show m = S.length by omega, bump_at] at e
        exact absurd e.symm (R.ne_none hp n h2)
      · omega
  · rw [List.length_append, List.length_singleton]
    by_cases h1 : n < S.length
    · rw [List.getElem?_append_left h1] at e
      exact (R.obj n x e).mono R (Ext.made hp) (by rw [bump_lt h1, upd_ne (R.ne_none hp n h1)])
    · have hn : n = S.length := by
        have := (List.getElem?_eq_some_iff.mp e).1
        rw [List.length_append, List.length_singleton] at this
        omega
      subst hn
      rw [List.getElem?_append_right (Nat.le_refl _), Nat.sub_self] at e
      cases e
      rw [bump_at]
      exact hu
theorem Ext.written {n : Nat} {o : HO} (hn : n < N) : Ext ι N H ι N (upd H (ι n) o) :=
  ⟨Nat.le_refl _, fun _ _ => rfl, fun m a b => absurd b (Nat.not_lt.mpr a), fun a u h hx => by rw [upd_ne (fun e => hx n hn e.symm)]; exact h, fun a u h => by
    by_cases e : a = ι n
    · subst e; exact ⟨o, upd_same⟩
    · exact ⟨u, by rw [upd_ne e]; exact h⟩⟩
theorem Rel.written (R : Rel K ι S H) {n : Nat} {o : HO} {u : MO} (hn : n < S.length) (hu : MAt K ι S.length (upd H (ι n) o) (ι n) u) : Rel K ι (S.set n u) (upd H (ι n) o) := by
  refine ⟨fun a b ha hb e => R.inj a b (by simpa using ha) (by simpa using hb) e, fun m x e => ?_, fun a h => let ⟨w, q⟩ := R.res a h; (Ext.written hn).live a w q⟩
  rw [List.length_set]
  by_cases h : n = m
  · subst h
    rw [List.getElem?_set_self hn] at e
    cases e
    exact hu
  · rw [List.getElem?_set_ne h] at e
    have hm := (List.getElem?_eq_some_iff.mp e).1
    exact (R.obj m x e).mono R (Ext.written hn) (by rw [upd_ne fun z => h (R.inj n m hn hm z.symm)])
end

/-! ### environments -/
def EnvAt (K : KR) (ι : Nat → Addr) (N : Nat) (H : Hp) (ρ : Rho) (σ : L2.St) : Prop :=
  ρ.length = σ.length ∧ ∀ (i : Nat) (d : D), ρ[i]? = some (some d) → ∃ v, σ[i]? = some (some v) ∧ At K ι N H d v
section
variable {K K0 : KR} {ι ι' : Nat → Addr} {S : Sto} {N N' : Nat} {H H' : Hp} {ρ : Rho} {σ : L2.St}
theorem EnvAt.mono (R : Rel K0 ι S H) (E : Ext ι S.length H ι' N' H') (h : EnvAt K ι S.length H ρ σ) : EnvAt K ι' N' H' ρ σ :=
  ⟨h.1, fun i d e => let ⟨v, q, a⟩ := h.2 i d e; ⟨v, q, a.mono R E⟩⟩
theorem EnvAt.set (h : EnvAt K ι N H ρ σ) {i : Nat} {d : D} {v : V} (a : At K ι N H d v) : EnvAt K ι N H (ρ.set i (some d)) (σ.set i (some v)) := by
  refine ⟨by simpa using h.1, fun j e he => ?_⟩
  by_cases hj : i = j
  · subst hj
    by_cases hi : i < ρ.length
    · rw [List.getElem?_set_self hi] at he
      cases he
      exact ⟨v, by rw [List.getElem?_set_self (by rw [← h.1]; exact hi)], a⟩
    · rw [List.getElem?_eq_none (by simpa using hi)] at he; cases he
  · rw [List.getElem?_set_ne hj] at he
    obtain ⟨w, q, b⟩ := h.2 j e he
    exact ⟨w, by rw [List.getElem?_set_ne hj]; exact q, b⟩
end

/-! ### the judgements -/
abbrev G := Rho → Sto → Option (D × Sto)
abbrev Gb := Rho → Sto → Option (Bool × Sto)
abbrev Gs := Rho → Sto → Option (List D × Sto)
inductive Flw where
  | nx | rt (d : D) | bk | ct
abbrev B := Rho → Sto → Option (Flw × Rho × Sto)
def Post (K : KR) (ι : Nat → Addr) (S : Sto) (H : Hp) (S' : Sto) (d : D) (Q : VK) : Prop :=
  ∀ ι' H' v, Ext ι S.length H ι' S'.length H' → Rel K ι' S' H' → At K ι' S'.length H' d v → Q v H'
def PostB (K : KR) (ι : Nat → Addr) (S : Sto) (H : Hp) (S' : Sto) (b : Bool) (Q : Bool → Hp → Prop) : Prop :=
  ∀ ι' H', Ext ι S.length H ι' S'.length H' → Rel K ι' S' H' → Q b H'
def PostL (K : KR) (ι : Nat → Addr) (S : Sto) (H : Hp) (S' : Sto) (ds : List D) (Q : List V → Hp → Prop) : Prop :=
  ∀ ι' H' vs, Ext ι S.length H ι' S'.length H' → Rel K ι' S' H' → AtL K ι' S'.length H' ds vs → Q vs H'
def tE (K : PySem.W.Frag) (f : G) : TE := fun σ H Q => ∃ (rs : Addr → Prop) (ι : Nat → Addr) (ρ : Rho) (S : Sto) (d : D) (S' : Sto), Rel ⟨K, rs⟩ ι S H ∧ EnvAt ⟨K, rs⟩ ι S.length H ρ σ ∧ f ρ S = some (d, S') ∧ Post ⟨K, rs⟩ ι S H S' d Q
def tT (K : PySem.W.Frag) (f : Gb) : TT := fun σ H Q => ∃ (rs : Addr → Prop) (ι : Nat → Addr) (ρ : Rho) (S : Sto) (b : Bool) (S' : Sto), Rel ⟨K, rs⟩ ι S H ∧ EnvAt ⟨K, rs⟩ ι S.length H ρ σ ∧ f ρ S = some (b, S') ∧ PostB ⟨K, rs⟩ ι S H S' b Q
def tL (K : PySem.W.Frag) (f : Gs) : TA := fun σ H Q => ∃ (rs : Addr → Prop) (ι : Nat → Addr) (ρ : Rho) (S : Sto) (ds : List D) (S' : Sto), Rel ⟨K, rs⟩ ι S H ∧ EnvAt ⟨K, rs⟩ ι S.length H ρ σ ∧ f ρ S = some (ds, S') ∧ PostL ⟨K, rs⟩ ι S H S' ds Q
def EndsP (K : KR) (ι : Nat → Addr) (S : Sto) (H : Hp) (D' : Ends) : Flw → Rho → Sto → Prop
  | .nx, ρ', S' => ∀ ι' σ' H', Ext ι S.length H ι' S'.length H' → Rel K ι' S' H' → EnvAt K ι' S'.length H' ρ' σ' → D'.nx σ' H'
  | .bk, ρ', S' => ∀ ι' σ' H', Ext ι S.length H ι' S'.length H' → Rel K ι' S' H' → EnvAt K ι' S'.length H' ρ' σ' → D'.bk σ' H'
  | .ct, ρ', S' => ∀ ι' σ' H', Ext ι S.length H ι' S'.length H' → Rel K ι' S' H' → EnvAt K ι' S'.length H' ρ' σ' → D'.ct σ' H'
  | .rt d, _, S' => Post K ι S H S' d D'.rt
def tS (K : PySem.W.Frag) (f : B) : TS := fun D' σ H => ∃ (rs : Addr → Prop) (ι : Nat → Addr) (ρ : Rho) (S : Sto) (fl : Flw) (ρ' : Rho) (S' : Sto), Rel ⟨K, rs⟩ ι S H ∧ EnvAt ⟨K, rs⟩ ι S.length H ρ σ ∧ f ρ S = some (fl, ρ', S') ∧ EndsP ⟨K, rs⟩ ι S H D' fl ρ' S'
abbrev DE (X : Cx) (e : Expr) (f : G) : Prop := PE X e (tE X.K f)
abbrev DT (X : Cx) (e : Expr) (f : Gb) : Prop := PT X e (tT X.K f)
abbrev DA (X : Cx) (es : List Expr) (f : Gs) : Prop := PA X es (tL X.K f)
abbrev DS (X : Cx) (st : Stmt) (f : B) : Prop := PS X st (tS X.K f)
abbrev DSs (X : Cx) (st : List Stmt) (f : B) : Prop := PSs X st (tS X.K f)
theorem PE.imp {X : Cx} {e : Expr} {t t' : TE} (h : PE X e t) (i : ∀ σ H Q, t' σ H Q → t σ H Q) : PE X e t' := ⟨fun pins s σ H Q I q => h.run pins s σ H Q I (i _ _ _ q)⟩
theorem PT.imp {X : Cx} {e : Expr} {t t' : TT} (h : PT X e t) (i : ∀ σ H Q, t' σ H Q → t σ H Q) : PT X e t' := ⟨fun pins s σ H Q I q => h.run pins s σ H Q I (i _ _ _ q)⟩
theorem PW.imp {X : Cx} {e : Expr} {t t' : TT} (h : PW X e t) (i : ∀ σ H Q, t' σ H Q → t σ H Q) : PW X e t' := ⟨fun wh pins s σ H Q I q => h.run wh pins s σ H Q I (i _ _ _ q)⟩
theorem PA.imp {X : Cx} {e : List Expr} {t t' : TA} (h : PA X e t) (i : ∀ σ H Q, t' σ H Q → t σ H Q) : PA X e t' := ⟨fun pos pins s σ H Q I q => h.run pos pins s σ H Q I (i _ _ _ q)⟩
theorem PS.imp {X : Cx} {st : Stmt} {t t' : TS} (h : PS X st t) (i : ∀ D σ H, t' D σ H → t D σ H) : PS X st t' := ⟨fun pins s σ H D I q => h.run pins s σ H D I (i _ _ _ q)⟩
theorem PSs.imp {X : Cx} {st : List Stmt} {t t' : TS} (h : PSs X st t) (i : ∀ D σ H, t' D σ H → t D σ H) : PSs X st t' := ⟨fun pins s σ H D I q => h.run pins s σ H D I (i _ _ _ q)⟩
/-- an expression's reading from its parts -/
theorem tE.go {K : PySem.W.Frag} {rs : Addr → Prop} {f : G} {ι : Nat → Addr} {ρ : Rho} {S S' : Sto} {d : D} {σ : L2.St} {H : Hp} {Q : VK} (R : Rel ⟨K, rs⟩ ι S H) (En : EnvAt ⟨K, rs⟩ ι S.length H ρ σ) (h : f ρ S = some (d, S'))
    (k : ∀ ι' H' v, Ext ι S.length H ι' S'.length H' → Rel ⟨K, rs⟩ ι' S' H' → EnvAt ⟨K, rs⟩ ι' S'.length H' ρ σ → At ⟨K, rs⟩ ι' S'.length H' d v → Q v H') : tE K f σ H Q :=
  ⟨rs, ι, ρ, S, d, S', R, En, h, fun ι' H' v E R' a => k ι' H' v E R' (En.mono R E) a⟩
theorem tT.go {K : PySem.W.Frag} {rs : Addr → Prop} {f : Gb} {ι : Nat → Addr} {ρ : Rho} {S S' : Sto} {d : Bool} {σ : L2.St} {H : Hp} {Q : Bool → Hp → Prop} (R : Rel ⟨K, rs⟩ ι S H) (En : EnvAt ⟨K, rs⟩ ι S.length H ρ σ) (h : f ρ S = some (d, S'))
    (k : ∀ ι' H', Ext ι S.length H ι' S'.length H' → Rel ⟨K, rs⟩ ι' S' H' → EnvAt ⟨K, rs⟩ ι' S'.length H' ρ σ → Q d H') : tT K f σ H Q :=
  ⟨rs, ι, ρ, S, d, S', R, En, h, fun ι' H' E R' => k ι' H' E R' (En.mono R E)⟩
theorem tL.go {K : PySem.W.Frag} {rs : Addr → Prop} {f : Gs} {ι : Nat → Addr} {ρ : Rho} {S S' : Sto} {d : List D} {σ : L2.St} {H : Hp} {Q : List V → Hp → Prop} (R : Rel ⟨K, rs⟩ ι S H) (En : EnvAt ⟨K, rs⟩ ι S.length H ρ σ) (h : f ρ S = some (d, S'))
    (k : ∀ ι' H' v, Ext ι S.length H ι' S'.length H' → Rel ⟨K, rs⟩ ι' S' H' → EnvAt ⟨K, rs⟩ ι' S'.length H' ρ σ → AtL ⟨K, rs⟩ ι' S'.length H' d v → Q v H') : tL K f σ H Q :=
  ⟨rs, ι, ρ, S, d, S', R, En, h, fun ι' H' v E R' a => k ι' H' v E R' (En.mono R E) a⟩
end FS
set_option Elab.async false
set_option linter.all false
set_option maxRecDepth 100000
set_option maxHeartbeats 4000000
namespace FS
open PySem PySem.Spec PyProof.Rows L2

/-! ### a def's worth -/
abbrev Fn := List D → Sto → Option (D × Sto)
def spOf (K : PySem.W.Frag) (F : Fn) (vs : List V) (H : Hp) (Q : VK) : Prop :=
  ∃ (rs : Addr → Prop) (ι : Nat → Addr) (S : Sto) (ds : List D) (d : D) (S' : Sto), Rel ⟨K, rs⟩ ι S H ∧ AtL ⟨K, rs⟩ ι S.length H ds vs ∧ F ds S = some (d, S') ∧ Post ⟨K, rs⟩ ι S H S' d Q
/-- no exception leaves; nothing is being shown as text around the call -/
structure FG (P : Program) (w : World) (K : PySem.W.Frag) (mg : Str → Option Value) (base : Heap) (k : Nat) (f : Addr) (fd : FuncData) (ps : List Str) (F : Fn) : Prop where
  len : ∀ ds S r, F ds S = some r → ds.length = ps.length
  run : ∀ (A : Around) (outer : List Env) (s : Shared) (H : Hp) (args : Args) (us : List Value) (vs : List V) (Q : VK), Room k A → A.guards = some [] →
    Env0 P w K mg base A outer s H → BindsTo s fd args (ps.zip us) → Vals vs us → spOf K F vs H Q →
    codeAny (model P w) A (.call (.ref f) args) (CR CX0 outer P w H s Q E0) s
theorem FG.mono {P : Program} {w : World} {K : PySem.W.Frag} {mg : Str → Option Value} {base : Heap} {j k : Nat} {f : Addr} {fd : FuncData} {ps : List Str} {F : Fn} (g : FG P w K mg base j f fd ps F) (h : j ≤ k) : FG P w K mg base k f fd ps F :=
  ⟨g.len, fun A outer s H args us vs Q hr => g.run A outer s H args us vs Q (hr.mono h)⟩
theorem FG.imp {P : Program} {w : World} {K : PySem.W.Frag} {mg : Str → Option Value} {base : Heap} {k : Nat} {f : Addr} {fd : FuncData} {ps : List Str} {F F' : Fn} (g : FG P w K mg base k f fd ps F)
    (hl : ∀ ds S r, F' ds S = some r → ds.length = ps.length) (h : ∀ vs H Q, spOf K F' vs H Q → spOf K F vs H Q) : FG P w K mg base k f fd ps F' :=
  ⟨hl, fun A outer s H args us vs Q hr hg e0 hb hv hs => g.run A outer s H args us vs Q hr hg e0 hb hv (h _ _ _ hs)⟩

section
variable {X : Cx} {k : Nat} {f : Addr} {fd : FuncData} {ps : List Str} {F : Fn} {dvs : List V} {ds : List Value} {x : Str} {p pos : Pos} {e : Expr} {es : List Expr} {t : TA}
theorem run_fg {pins : List (Addr × Obj)} {σ : L2.St} {H : Hp} {s : Shared} {Q : VK} {us : List Value} {vs : List V} (g : FG X.prog X.w X.K X.mg X.base k f fd ps F) (hr : Room k X.A) (hgd : X.A.guards = some []) (hb : Binds X.K fd ps ds) (hd : Vals dvs ds)
    (I : Inv X pins σ H s) (r : Vals vs us) (h : spOf X.K F (vs ++ dvs) H Q) : wpAny (model X.prog X.w) X.A (call (.ref f) us) (EP X pins σ Q) X.xe s := by
  have r2 : Vals (vs ++ dvs) (us ++ ds) := Vals.append r hd
  have hl : (us ++ ds).length = ps.length := by
    obtain ⟨rs, ι, S, as, d, S', _, a, hF, _⟩ := h
    rw [← r2.length, ← a.length]
    exact g.len _ _ _ hF
  have go := g.run X.A X.stack s H ⟨us, []⟩ (us ++ ds) (vs ++ dvs) Q hr hgd I.env0 (hb s us I.kIn hl) r2 h
  refine wpAny_call (codeAny_mono go ?_)
  intro res s' hq
  match res, hq with
  | .ok (.ret u), hq => exact I.after hq
  | .ok .next, hq => exact hq.elim
  | .ok .brk, hq => exact hq.elim
  | .ok .cont, hq => exact hq.elim
  | .error e, hq => exact hq.elim
def tCallG (K : PySem.W.Frag) (F : Fn) (dvs : List V) (t : TA) : TE := fun σ H Q => t σ H fun vs H1 => spOf K F (vs ++ dvs) H1 Q
theorem pe_callG (g : FG X.prog X.w X.K X.mg X.base k f fd ps F) (hr : Room k X.A) (hgd : X.A.guards = some []) (hg : Gl X x) (hm : X.mg x = some (.ref f)) (hk : PySem.W.keepIn X.K (.ref f) = true) (hb : Binds X.K fd ps ds) (hd : Vals dvs ds)
    (ha : PA X (e :: es) t) (hdb : (x == ("__debug__" : Str)) = false := by decide) (he : starEach (e :: es) X.env = (false, eval e X.env) :: starEach es X.env := by rfl)
    (hpl : (backTo pos (starEach es X.env)).any (·.1) = false := by rfl) :
    PE X (.Call (.Name x p) (e :: es) [] pos) (tCallG X.K F dvs t) := by
  constructor
  intro pins s σ H Q I h
  apply wpAny_Call_Name_kw
  apply ld_glob I hg hm _ hdb
  have step : ∀ us s1, AP X pins σ (fun vs H1 => spOf X.K F (vs ++ dvs) H1 Q) us s1 → X.K.In s1.heap ∧ wpAny (model X.prog X.w) X.A (call (.ref f) us) (EP X pins σ Q) X.xe s1 := by
    rintro us s1 ⟨vs, H1, I1, r, q⟩
    exact ⟨I1.kIn, run_fg g hr hgd hb hd I1 r q⟩
  exact PySem.W.callWith_K (h₀ := X.base) I.ok.mod.kin hk (thn (ha.run pos pins s σ H _ I h) step) he hpl
theorem pe_callG0 (g : FG X.prog X.w X.K X.mg X.base k f fd ps F) (hr : Room k X.A) (hgd : X.A.guards = some []) (hg : Gl X x) (hm : X.mg x = some (.ref f)) (hk : PySem.W.keepIn X.K (.ref f) = true) (hb : Binds X.K fd ps ds) (hd : Vals dvs ds)
    (hdb : (x == ("__debug__" : Str)) = false := by decide) : PE X (.Call (.Name x p) [] [] pos) (tCallG X.K F dvs tNil) := by
  constructor
  intro pins s σ H Q I h
  apply wpAny_Call_Name_kw
  apply ld_glob I hg hm _ hdb
  exact PySem.W.callWith_K0 I.kIn hk (run_fg (us := []) g hr hgd hb hd I .nil h)
end

/-! ### from a body to a def -/
/-- np parameters, nn names in all -/
def runFn (np nn : Nat) (b : B) : Fn := fun ds S =>
  if ds.length = np then
    match b (ds.map some ++ List.replicate (nn - np) none) S with
    | some (.rt d, _, S') => some (d, S')
    | some (.nx, _, S') => some (.non, S')
    | _ => none
  else none
theorem env_start {K : KR} {ι : Nat → Addr} {N : Nat} {H : Hp} {ds : List D} {vs : List V} {Ns : List Str} {np : Nat} (a : AtL K ι N H ds vs) (hl : ds.length = np) : EnvAt K ι N H (ds.map some ++ List.replicate (Ns.length - np) none) (L2.start Ns vs) := by
  have e := a.length
  refine ⟨by simp only [L2.start, List.length_append, List.length_map, List.length_replicate]; omega, fun i d h => ?_⟩
  by_cases hi : i < ds.length
  · rw [List.getElem?_append_left (by simpa using hi), List.getElem?_map] at h
    obtain ⟨d', h1, h2⟩ := Option.map_eq_some_iff.mp h
    cases h2
    obtain ⟨v, q, b⟩ := a.get h1
    refine ⟨v, ?_, b⟩
    unfold L2.start
    rw [List.getElem?_append_left (by rw [List.length_map]; omega), List.getElem?_map, q]
    rfl
  · rw [List.getElem?_append_right (by simpa using hi), List.getElem?_replicate] at h
    split at h <;> cases h
theorem fg_of {P : Program} {w : World} {K : PySem.W.Frag} {mg : Str → Option Value} {base : Heap} {k : Nat} {f : Addr} {fd : FuncData} {x qual : Str} {st : Stmt} {Ns ps : List Str} {b : B} (F : Fun K x qual st f fd) (S : FnScope Ns ps (defScope st))
    (body : ∀ (cdv : Value) (A : Around) (outer : List Env) (s : Shared) (H : Hp), Room k (A.deeper (envOfC qual (defScope st) s.heap.objs.size f cdv)) → A.guards = some [] →
      DSs (cxOf CX0 P w K mg base Ns qual (defScope st) f cdv A outer s H E0).nox (defBody st) b) : FG P w K mg base (k + 1) f fd ps (runFn ps.length Ns.length b) := by
  obtain ⟨oc, od, kV, doc, pm, an, cdv, ct, osl, rfl, lk, hcd⟩ := F.ex
  constructor
  · intro ds S r h
    unfold runFn at h
    split at h
    · assumption
    · cases h
  · intro A outer s H args us vs Q hr hgd e0 hb r hsp
    have KX : K.In s.heap := e0.mod.kin.keeps fun b o e => (e0.bs b o e).1
    have lim : s.heap.NoLimit := e0.mod.nolimit.keeps fun b o e => (e0.bs b o e).1
    obtain ⟨rs, ι, S0, ds, d, S', R, a, hF, pq⟩ := hsp
    have hl : ds.length = ps.length := by
      unfold runFn at hF
      split at hF
      · assumption
      · cases hF
    have hvl : vs.length = ps.length := by rw [← a.length]; exact hl
    have kinds : ∀ y ∈ ps.zip us, (defScope st).names.lookup y.1 = some .local ∨ ((defScope st).names.lookup y.1 = some .cell ∧ ((cellsFrom (s.heap.objs.size + 1) (defScope st).names []).lookup y.1).isSome = true) := by
      intro y hy
      cases S.par y.1 (List.of_mem_zip (a := y.1) (b := y.2) hy).1 with
      | inl q => exact .inl q
      | inr q => exact .inr ⟨q, PySem.W.cellsFrom_some _ _ _ (.inl q)⟩
    apply codeAny_call_function hr.depth (KX _ _ lk) rfl S.co S.gen rfl (PySem.W.codeRec_of KX hcd) (hb _ _ _ _ _)
    apply wpAny_newFunctionEnv_cells S.kind kinds
    intro env he s1 xx
    subst he
    refine ⟨lim.keeps xx.toInCall.keep, codeAny_func ?_⟩
    have I : Inv (cxOf CX0 P w K mg base Ns qual (defScope st) f cdv A outer s H E0) [] (L2.start Ns vs) H s1 := inv_start S hr.hd e0 hvl r xx
    have hbd := (body cdv A outer s H (hr.deeper _) hgd).nox
    have rd : tS K b { nx := fun _ H' => Q .non H', rt := Q } (L2.start Ns vs) H := by
      unfold runFn at hF
      rw [if_pos hl] at hF
      have En := env_start (Ns := Ns) a hl
      cases hb1 : b (ds.map some ++ List.replicate (Ns.length - ps.length) none) S0 with
      | none => rw [hb1] at hF; cases hF
      | some r1 =>
        obtain ⟨fl, ρ', S1⟩ := r1
        rw [hb1] at hF
        refine ⟨rs, ι, _, S0, fl, ρ', S1, R, En, hb1, ?_⟩
        cases fl with
        | rt d1 => cases hF; exact pq
        | nx => cases hF; exact fun ι' σ' H' E R' _ => pq ι' H' .non E R' .non
        | bk => cases hF
        | ct => cases hF
    refine wpAny_mono (hbd.run [] s1 _ H _ I rd) ?_ fun _ _ hs => hs
    intro fl s' hs
    match fl, hs with
    | .ret u, ⟨v, σ', H', J, rv, q⟩ => exact ⟨v, H', J.os, J.bare, J.base, J.hok, rv, q⟩
    | .next, ⟨σ', H', J, q⟩ => exact ⟨.non, H', J.os, J.bare, J.base, J.hok, rfl, q⟩
    | .brk, ⟨_, _, _, q⟩ => exact q.elim
    | .cont, ⟨_, _, _, q⟩ => exact q.elim

/-! ### what a def has made for itself is let go at its end -/
mutual
/-- all numbers in the data are below n -/
def closed (n : Nat) : D → Bool
  | .tup xs => closedL n xs
  | .lst xs => closedL n xs
  | .scr xs => closedL n xs
  | .ref m => decide (m < n)
  | _ => true
def closedL (n : Nat) : List D → Bool
  | [] => true
  | x :: xs => closed n x && closedL n xs
end
def closedM (n : Nat) : MO → Bool
  | .lst xs => closedL n xs
  | .dct kvs => closedL n (kvs.map (·.2))
/-- the store as it was (what stood may have changed), the value read off -/
def settle (n : Nat) : D × Sto → Option (D × Sto)
  | (d, S') =>
    if n ≤ S'.length ∧ (S'.take n).all (closedM n) = true then
      if closed n d = true then some (d, S'.take n) else
        match d with
        | .ref m => match S'[m]? with
          | some (.lst xs) => if n ≤ m ∧ closedL n xs = true then some (.lst xs, S'.take n) else none
          | _ => none
        | _ => none
    else none
def settled (F : Fn) : Fn := fun ds S => match F ds S with
  | some r => settle S.length r
  | none => none
section
variable {K : KR} {ι : Nat → Addr} {N n : Nat} {H : Hp}
mutual
theorem At.less (hn : n ≤ N) : ∀ {d : D} {v : V}, closed n d = true → At K ι N H d v → At K ι n H d v
  | _, _, _, .non => .non
  | _, _, _, .bl b => .bl b
  | _, _, _, .int i => .int i
  | _, _, _, .str x => .str x
  | _, _, c, .tup h z l => .tup h z (AtL.less hn (by simpa [closed] using c) l)
  | _, _, c, .lst h z l => .lst ⟨h.1, fun m hm => h.2.1 m (Nat.lt_of_lt_of_le hm hn), h.2.2⟩ z (AtL.less hn (by simpa [closed] using c) l)
  | _, _, c, .scr h z l => .scr h z (AtL.less hn (by simpa [closed] using c) l)
  | _, _, c, .ref h => .ref (by simpa [closed] using c)
theorem AtL.less (hn : n ≤ N) : ∀ {ds : List D} {vs : List V}, closedL n ds = true → AtL K ι N H ds vs → AtL K ι n H ds vs
  | _, _, _, .nil => .nil
  | _, _, c, .cons h t => by
    have c' := c
    simp only [closedL, Bool.and_eq_true] at c'
    exact .cons (At.less hn c'.1 h) (AtL.less hn c'.2 t)
end
theorem KAt.less (hn : n ≤ N) : ∀ {kvs : List (Key × D)} {kws : List (Key × V)}, closedL n (kvs.map (·.2)) = true → KAt K ι N H kvs kws → KAt K ι n H kvs kws
  | _, _, _, .nil => .nil
  | _, _, c, .cons h t => by
    have c' := c
    simp only [List.map_cons, closedL, Bool.and_eq_true] at c'
    exact .cons ⟨h.1, h.2.less hn c'.1⟩ (KAt.less hn c'.2 t)
theorem MAt.less (hn : n ≤ N) {a : Addr} : ∀ {o : MO}, closedM n o = true → MAt K ι N H a o → MAt K ι n H a o
  | .lst ds, c, ⟨vs, h1, h2, h3⟩ => ⟨vs, h1, h2.less hn c, h3⟩
  | .dct kvs, c, ⟨vs, h1, h2, h3⟩ => ⟨vs, h1, h2.less hn c, h3⟩
theorem Rel.less {S : Sto} (R : Rel K ι S H) (hn : n ≤ S.length) (c : (S.take n).all (closedM n) = true) : Rel K ι (S.take n) H := by
  have hl : (S.take n).length = n := by rw [List.length_take]; omega
  refine ⟨fun a b ha hb => R.inj a b (by omega) (by omega), fun m o e => ?_, R.res⟩
  rw [hl]
  have hm : m < n := by have := (List.getElem?_eq_some_iff.mp e).1; omega
  have e' : S[m]? = some o := by rw [List.getElem?_take_of_lt hm] at e; exact e
  exact (R.obj m o e').less hn (List.all_eq_true.mp c o (List.mem_of_getElem? e))
theorem Ext.less {ι' : Nat → Addr} {N' : Nat} {H' : Hp} (E : Ext ι N H ι' N' H') : Ext ι N H ι' N H' :=
  ⟨Nat.le_refl _, E.eqi, fun m a b => absurd b (Nat.not_lt.mpr a), E.keep, E.live⟩
end
theorem settled_sp {K : PySem.W.Frag} {F : Fn} {vs : List V} {H : Hp} {Q : VK} (h : spOf K (settled F) vs H Q) : spOf K F vs H Q := by
  obtain ⟨rs, ι, S, ds, d, S', R, a, hF, pq⟩ := h
  unfold settled at hF
  cases e : F ds S with
  | none => rw [e] at hF; cases hF
  | some r =>
    obtain ⟨d1, S1⟩ := r
    rw [e] at hF
    refine ⟨rs, ι, S, ds, d1, S1, R, a, e, fun ι' H' v E R' a1 => ?_⟩
    simp only [settle] at hF
    split at hF
    · rename_i hc
      obtain ⟨hn, hc⟩ := hc
      have hl : (S1.take S.length).length = S.length := by rw [List.length_take]; omega
      have R2 := R'.less hn hc
      split at hF
      · rename_i cd
        cases hF
        exact pq ι' H' v (by rw [hl]; exact E.less) R2 (by rw [hl]; exact a1.less hn cd)
      · split at hF
        · rename_i m _
          split at hF
          · rename_i xs hx
            split at hF
            · rename_i hm
              cases hF
              cases a1 with
              | ref hlt =>
                obtain ⟨ws, q1, q2, q3⟩ := R'.obj m _ hx
                have key : At ⟨K, rs⟩ ι' S.length H' (.lst xs) (.ref (ι' m)) := .lst ⟨q1, fun j hj z => by
                  have := R'.inj j m (by omega) hlt z
                  omega, R.free (E.new m hm.1 hlt)⟩ q3 (q2.less hn hm.2)
                exact pq ι' H' _ (by rw [hl]; exact E.less) R2 (by rw [hl]; exact key)
            · cases hF
          · cases hF
        · cases hF
    · cases hF
theorem FG.settled {P : Program} {w : World} {K : PySem.W.Frag} {mg : Str → Option Value} {base : Heap} {k : Nat} {f : Addr} {fd : FuncData} {ps : List Str} {F : Fn} (g : FG P w K mg base k f fd ps F) : FG P w K mg base k f fd ps (settled F) :=
  g.imp (fun ds S r h => by
    unfold FS.settled at h
    cases e : F ds S with
    | none => rw [e] at h; cases h
    | some r => exact g.len _ _ _ e) fun _ _ _ h => settled_sp h
/-- a def by an equal worth, where that is told -/
theorem FG.by {P : Program} {w : World} {K : PySem.W.Frag} {mg : Str → Option Value} {base : Heap} {k : Nat} {f : Addr} {fd : FuncData} {ps : List Str} {F F' : Fn} (g : FG P w K mg base k f fd ps F) (h : ∀ ds S r, F' ds S = some r → F ds S = some r) : FG P w K mg base k f fd ps F' :=
  g.imp (fun ds S r e => g.len ds S r (h ds S r e)) fun vs H Q ⟨rs, ι, S, ds, d, S', R, a, e, q⟩ => ⟨rs, ι, S, ds, d, S', R, a, h _ _ _ e, q⟩
end FS
set_option Elab.async false
set_option linter.all false
set_option maxRecDepth 100000
set_option maxHeartbeats 4000000
namespace FS
open PySem PySem.Spec PyProof.Rows L2

section
variable {K : KR} {ι ι' : Nat → Addr} {S S' S1 : Sto} {H H' H1 : Hp} {d : D} {Q : VK}
theorem Post.same {v : V} (k : Post K ι S H S d Q) (R : Rel K ι S H) (a : At K ι S.length H d v) : Q v H := k ι H v Ext.refl R a
theorem Post.from {ι1 : Nat → Addr} (k : Post K ι S H S' d Q) (E : Ext ι S.length H ι1 S1.length H1) : Post K ι1 S1 H1 S' d Q := fun ι' H' v E' R' a => k ι' H' v (E.trans E') R' a
theorem Post.tup {ds : List D} {vs : List V} {p : Addr} (k : Post K ι S H S (.tup ds) Q) (R : Rel K ι S H) (hp : H p = none) (z : vs.length ≤ sizeLine) (l : AtL K ι S.length H ds vs) : Q (.ref p) (upd H p (.tup vs)) :=
  k ι _ _ (Ext.fresh hp) (R.fresh hp) (.tup (.inl (.inl upd_same)) z (l.mono R (Ext.fresh hp)))
theorem Post.lst {ds : List D} {vs : List V} {p : Addr} (k : Post K ι S H S (.lst ds) Q) (R : Rel K ι S H) (hp : H p = none) (z : vs.length ≤ sizeLine) (l : AtL K ι S.length H ds vs) : Q (.ref p) (upd H p (.lst vs)) :=
  k ι _ _ (Ext.fresh hp) (R.fresh hp) (.lst ⟨upd_same, R.ne_none hp, R.free hp⟩ z (l.mono R (Ext.fresh hp)))
theorem Post.newL {ds : List D} {vs : List V} {p : Addr} (k : Post K ι S H (S ++ [.lst ds]) (.ref S.length) Q) (R : Rel K ι S H) (hp : H p = none) (z : vs.length ≤ sizeLine) (l : AtL K ι S.length H ds vs) : Q (.ref p) (upd H p (.lst vs)) := by
  have hl : (S ++ [MO.lst ds]).length = S.length + 1 := by simp
  have k' := k (bump ι S.length p) (upd H p (.lst vs)) (.ref p)
  rw [hl] at k'
  exact k' (Ext.made hp) (R.made hp ⟨vs, upd_same, l.mono R (Ext.made hp), z⟩) (by
    have q : At K (bump ι S.length p) (S.length + 1) (upd H p (.lst vs)) (.ref S.length) (.ref (bump ι S.length p S.length)) := .ref (Nat.lt_succ_self _)
    rw [bump_at] at q
    exact q)
theorem Post.newD {kvs : List (Key × D)} {kws : List (Key × V)} {p : Addr} (k : Post K ι S H (S ++ [.dct kvs]) (.ref S.length) Q) (R : Rel K ι S H) (hp : H p = none) (z : kws.length ≤ sizeLine) (l : KAt K ι S.length H kvs kws) : Q (.ref p) (upd H p (.dK kws)) := by
  have hl : (S ++ [MO.dct kvs]).length = S.length + 1 := by simp
  have k' := k (bump ι S.length p) (upd H p (.dK kws)) (.ref p)
  rw [hl] at k'
  exact k' (Ext.made hp) (R.made hp ⟨kws, upd_same, l.mono R (Ext.made hp), z⟩) (by
    have q : At K (bump ι S.length p) (S.length + 1) (upd H p (.dK kws)) (.ref S.length) (.ref (bump ι S.length p S.length)) := .ref (Nat.lt_succ_self _)
    rw [bump_at] at q
    exact q)
/-- the list that the data is, wherever it stands -/
def lsOf (S : Sto) : D → Option (List D)
  | .lst xs => some xs
  | .scr xs => some xs
  | .ref n => match S[n]? with
    | some (.lst xs) => some xs
    | _ => none
  | _ => none
/-- .. that was made here -/
def lmOf (S : Sto) : D → Option (List D)
  | .lst xs => some xs
  | .ref n => match S[n]? with
    | some (.lst xs) => some xs
    | _ => none
  | _ => none
theorem lmOf_at {xs : List D} {v : V} (R : Rel K ι S H) (a : At K ι S.length H d v) (h : lmOf S d = some xs) : ∃ p vs, v = .ref p ∧ H p = some (.lst vs) ∧ vs.length ≤ sizeLine ∧ AtL K ι S.length H xs vs := by
  cases a with
  | lst q z l => cases h; exact ⟨_, _, rfl, q.1, z, l⟩
  | @ref n hn =>
    simp only [lmOf] at h
    split at h
    · rename_i ys e
      cases h
      obtain ⟨vs, q, l, z⟩ := R.obj n _ e
      exact ⟨_, vs, rfl, q, z, l⟩
    · cases h
  | _ => cases h
def sqOf (S : Sto) : D → Option (List D)
  | .tup xs => some xs
  | d => lsOf S d
theorem lsOf_at {xs : List D} {v : V} (R : Rel K ι S H) (a : At K ι S.length H d v) (h : lsOf S d = some xs) : ∃ p vs, v = .ref p ∧ SqL K.k H p vs ∧ vs.length ≤ sizeLine ∧ AtL K ι S.length H xs vs := by
  cases a with
  | lst q z l => cases h; exact ⟨_, _, rfl, q.sq, z, l⟩
  | scr q z l => cases h; exact ⟨_, _, rfl, q.sq, z, l⟩
  | @ref n hn =>
    simp only [lsOf] at h
    split at h
    · rename_i ys e
      cases h
      obtain ⟨vs, q, l, z⟩ := R.obj n _ e
      exact ⟨_, vs, rfl, .of q, z, l⟩
    · cases h
  | _ => cases h
theorem sqOf_at {xs : List D} {v : V} (R : Rel K ι S H) (a : At K ι S.length H d v) (h : sqOf S d = some xs) : ∃ p vs, v = .ref p ∧ (SqL K.k H p vs ∨ SqT K.k H p vs) ∧ vs.length ≤ sizeLine ∧ AtL K ι S.length H xs vs := by
  cases a with
  | tup q z l => cases h; exact ⟨_, _, rfl, .inr q, z, l⟩
  | lst q z l => cases h; exact ⟨_, _, rfl, .inl q.sq, z, l⟩
  | scr q z l => cases h; exact ⟨_, _, rfl, .inl q.sq, z, l⟩
  | ref hn => obtain ⟨p, vs, e, q, z, l⟩ := lsOf_at R (.ref hn) h; exact ⟨p, vs, e, .inl q, z, l⟩
  | _ => cases h
end

section
variable {X : Cx} {pos : Pos} {a b c e : Expr} {es : List Expr} {f g h : G}

/-! ### constants, names -/
def cC (d : D) : G := fun _ S => some (d, S)
theorem tC_of {v : V} {d : D} (w : ∀ K ι N H, At K ι N H d v) : ∀ σ H Q, tE X.K (cC d) σ H Q → tC v σ H Q := by
  rintro σ H Q ⟨rs, ι, ρ, S, d', S', R, En, hf, k⟩
  cases hf
  exact k.same R (w _ _ _ _)
theorem de_int {i j} : DE X (.Constant (.int i) j pos) (cC (.int i)) := PE.imp pe_int (tC_of fun _ _ _ _ => .int i)
theorem de_bl {i j} : DE X (.Constant (.bool i) j pos) (cC (.bl i)) := PE.imp pe_bl (tC_of fun _ _ _ _ => .bl i)
theorem de_non {j} : DE X (.Constant .none j pos) (cC .non) := PE.imp pe_non (tC_of fun _ _ _ _ => .non)
theorem de_str {x j} : DE X (.Constant (.str x) j pos) (cC (.str x)) := PE.imp pe_str (tC_of fun _ _ _ _ => .str x)
theorem de_glob {x : Str} {v : V} {u : Value} {d : D} (hg : Gl X x) (hm : X.mg x = some u) (r : RelV v u) (w : ∀ K ι N H, At K ι N H d v) (hd : (x == ("__debug__" : Str)) = false := by decide) : DE X (.Name x pos) (cC d) := PE.imp (pe_glob hg hm r hd) (tC_of w)
def cVar (i : Nat) : G := fun ρ S => match ρ[i]? with
  | some (some d) => some (d, S)
  | _ => none
theorem de_var (i : Nat) {x : Str} (hN : X.N[i]? = some x := by rfl) (hv : Vis X.env.scope x := by first | exact Or.inl rfl | exact Or.inr (Or.inl rfl) | exact Or.inr (Or.inr rfl)) (hd : (x == ("__debug__" : Str)) = false := by decide)
    (hcd : (x == ("__classdict__" : Str)) = false := by decide) : DE X (.Name x pos) (cVar i) := by
  refine PE.imp (pe_var hN hv hd hcd) ?_
  rintro σ H Q ⟨rs, ι, ρ, S, d', S', R, En, hf, k⟩
  unfold cVar at hf
  split at hf
  · rename_i d e
    cases hf
    obtain ⟨v, q, w⟩ := En.2 i _ e
    exact ⟨v, q, k.same R w⟩
  · cases hf

/-! ### two parts -/
abbrev Op2 := Sto → D → D → Option D
def cBin (op : Op2) (f g : G) : G := fun ρ S => match f ρ S with
  | none => none
  | some (x, S1) => match g ρ S1 with
    | none => none
    | some (y, S2) => match op S2 x y with
      | none => none
      | some z => some (z, S2)
/-- a rule by values serves an operation on data -/
def Serves2 (K : PySem.W.Frag) (r : R2) (op : Op2) : Prop := ∀ (rs : Addr → Prop) (ι : Nat → Addr) (S : Sto) (H : Hp) (x y : D) (v u : V) (d : D) (Q : VK), Rel ⟨K, rs⟩ ι S H → At ⟨K, rs⟩ ι S.length H x v → At ⟨K, rs⟩ ι S.length H y u → op S x y = some d → Post ⟨K, rs⟩ ι S H S d Q → r v u H Q
theorem cBin_of {K : PySem.W.Frag} {r : R2} {op : Op2} (hr : Serves2 K r op) : ∀ σ H Q, tE K (cBin op f g) σ H Q → tOp r (tE K f) (tE K g) σ H Q := by
  rintro σ H Q ⟨rs, ι, ρ, S, d, S', R, En, hf, k⟩
  unfold cBin at hf
  split at hf
  · cases hf
  · rename_i x S1 e1
    split at hf
    · cases hf
    · rename_i y S2 e2
      split at hf
      · cases hf
      · rename_i z e3
        cases hf
        refine tE.go R En e1 fun ι1 H1 v E1 R1 En1 a1 => ?_
        refine tE.go R1 En1 e2 fun ι2 H2 u E2 R2 En2 a2 => ?_
        exact hr rs ι2 S' H2 x y v u d Q R2 (a1.mono R1 E2) a2 e3 (k.from (E1.trans E2))
theorem de_op {o : Operator} {r : R2} {op : Op2} (hr : OpR X (binaryOp o) r) (hs : Serves2 X.K r op) (ha : DE X a f) (hb : DE X b g) : DE X (.BinOp a o b pos) (cBin op f g) := PE.imp (pe_op hr ha hb) (cBin_of hs)
theorem de_cmp {o : CmpOp} {r : R2} {op : Op2} (hr : OpR X (compareOp o) r) (hs : Serves2 X.K r op) (ha : DE X a f) (hb : DE X b g) (hm : behindInMarks o b = false) : DE X (.Compare a [o] [b] pos) (cBin op f g) := PE.imp (pe_cmpR hr ha hb hm) (cBin_of hs)
theorem Serves2.or {K : PySem.W.Frag} {r r' : R2} {op op' : Op2} (h : Serves2 K r op) (h' : Serves2 K r' op') : Serves2 K (fun x y H Q => r x y H Q ∨ r' x y H Q) (fun S x y => (op S x y).or (op' S x y)) := by
  intro rs ι S H x y v u d Q R a1 a2 e k
  dsimp only at e
  cases e1 : op S x y with
  | some z => rw [e1] at e; cases e; exact .inl (h _ _ _ _ _ _ _ _ _ _ R a1 a2 e1 k)
  | none => rw [e1] at e; exact .inr (h' _ _ _ _ _ _ _ _ _ _ R a1 a2 e k)

/-! ### tests -/
def cTest (f : G) : Gb := fun ρ S => match f ρ S with
  | some (.bl c, S1) => some (c, S1)
  | _ => none
theorem cTest_of {K : PySem.W.Frag} : ∀ σ H Q, tT K (cTest f) σ H Q → tB (tE K f) σ H Q := by
  rintro σ H Q ⟨rs, ι, ρ, S, d, S', R, En, hf, k⟩
  unfold cTest at hf
  split at hf
  · rename_i c S1 e
    cases hf
    refine tE.go R En e fun ι1 H1 v E1 R1 En1 a1 => ?_
    cases a1
    exact ⟨_, rfl, k _ _ E1 R1⟩
  · cases hf
theorem dt_val (h : DE X e f) (he : ∀ whole, isTrue e X.env whole = (do let v ← whole; standAt e.pos; holding [v] (truthy v)) := by intro _; rfl) : DT X e (cTest f) := PT.imp (pt_val h he) cTest_of
theorem dt_cmp {o : CmpOp} {r : R2} {op : Op2} (hr : OpR X (compareOp o) r) (hs : Serves2 X.K r op) (ha : DE X a f) (hb : DE X b g) (hm : behindInMarks o b = false) : DT X (.Compare a [o] [b] pos) (cTest (cBin op f g)) := by
  refine PT.imp (pt_cmpR hr ha hb hm) ?_
  intro σ H Q q
  obtain ⟨rs, ι, ρ, S, d, S', R, En, hf, k⟩ := q
  unfold cTest at hf
  split at hf
  · rename_i c S1 e
    cases hf
    have : tE X.K (cBin op f g) σ H (fun x H' => ∃ k, x = .bl k ∧ Q k H') := tE.go R En e fun ι1 H1 v E1 R1 En1 a1 => by
      cases a1
      exact ⟨_, rfl, k _ _ E1 R1⟩
    exact cBin_of hs _ _ _ this
  · cases hf
abbrev DW (X : Cx) (e : Expr) (f : Gb) : Prop := PW X e (tT X.K f)
variable {ft gt : Gb} {rest : List Expr}
def cAndT (f g : Gb) : Gb := fun ρ S => match f ρ S with
  | some (true, S1) => g ρ S1
  | some (false, S1) => some (false, S1)
  | none => none
def cOrT (f g : Gb) : Gb := fun ρ S => match f ρ S with
  | some (true, S1) => some (true, S1)
  | some (false, S1) => g ρ S1
  | none => none
def cNotT (f : Gb) : Gb := fun ρ S => match f ρ S with
  | some (c, S1) => some (!c, S1)
  | none => none
theorem PostB.from {K : KR} {ι ι1 : Nat → Addr} {S S1 S' : Sto} {H H1 : Hp} {c : Bool} {Q : Bool → Hp → Prop} (k : PostB K ι S H S' c Q) (E : Ext ι S.length H ι1 S1.length H1) : PostB K ι1 S1 H1 S' c Q := fun ι' H' E' R' => k ι' H' (E.trans E') R'
theorem dw_and1 (ha : DT X a ft) : DW X (.BoolOp .And [a] pos) ft := pw_and1 ha
theorem dw_or1 (ha : DT X a ft) : DW X (.BoolOp .Or [a] pos) ft := pw_or1 ha
theorem dw_and (ha : DT X a ft) (hb : DW X (.BoolOp .And (b :: rest) pos) gt) : DW X (.BoolOp .And (a :: b :: rest) pos) (cAndT ft gt) := by
  refine PW.imp (pw_and ha hb) ?_
  rintro σ H Q ⟨rs, ι, ρ, S, d, S', R, En, hf, k⟩
  unfold cAndT at hf
  split at hf
  · rename_i S1 e
    refine tT.go R En e fun ι1 H1 E1 R1 En1 => ?_
    rw [if_pos rfl]
    exact ⟨rs, ι1, ρ, S1, d, S', R1, En1, hf, k.from E1⟩
  · rename_i S1 e
    cases hf
    refine tT.go R En e fun ι1 H1 E1 R1 En1 => ?_
    rw [if_neg (by decide)]
    exact k _ _ E1 R1
  · cases hf
theorem dw_or (ha : DT X a ft) (hb : DW X (.BoolOp .Or (b :: rest) pos) gt) : DW X (.BoolOp .Or (a :: b :: rest) pos) (cOrT ft gt) := by
  refine PW.imp (pw_or ha hb) ?_
  rintro σ H Q ⟨rs, ι, ρ, S, d, S', R, En, hf, k⟩
  unfold cOrT at hf
  split at hf
  · rename_i S1 e
    cases hf
    refine tT.go R En e fun ι1 H1 E1 R1 En1 => ?_
    rw [if_pos rfl]
    exact k _ _ E1 R1
  · rename_i S1 e
    refine tT.go R En e fun ι1 H1 E1 R1 En1 => ?_
    rw [if_neg (by decide)]
    exact ⟨rs, ι1, ρ, S1, d, S', R1, En1, hf, k.from E1⟩
  · cases hf
theorem dt_not (ha : DT X a ft) : DT X (.UnaryOp .Not a pos) (cNotT ft) := by
  refine PT.imp (pt_not ha) ?_
  rintro σ H Q ⟨rs, ι, ρ, S, d, S', R, En, hf, k⟩
  unfold cNotT at hf
  split at hf
  · rename_i c S1 e
    cases hf
    exact tT.go R En e fun ι1 H1 E1 R1 En1 => k _ _ E1 R1
  · cases hf
/-! .. as values -/
def cAnd (f g : G) : G := fun ρ S => match f ρ S with
  | some (.bl true, S1) => g ρ S1
  | some (.bl false, S1) => some (.bl false, S1)
  | _ => none
def cOr (f g : G) : G := fun ρ S => match f ρ S with
  | some (.bl true, S1) => some (.bl true, S1)
  | some (.bl false, S1) => g ρ S1
  | _ => none
def cNot (f : G) : G := fun ρ S => match f ρ S with
  | some (.bl c, S1) => some (.bl (!c), S1)
  | _ => none
theorem de_one {op} (h : DE X a f) : DE X (.BoolOp op [a] pos) f := pe_one h
theorem de_and (ha : DE X a f) (hb : DE X (.BoolOp .And (b :: rest) pos) g) : DE X (.BoolOp .And (a :: b :: rest) pos) (cAnd f g) := by
  refine PE.imp (pe_and ha hb) ?_
  rintro σ H Q ⟨rs, ι, ρ, S, d, S', R, En, hf, k⟩
  unfold cAnd at hf
  split at hf
  · rename_i S1 e
    refine tE.go R En e fun ι1 H1 v E1 R1 En1 a1 => ?_
    cases a1
    refine ⟨true, rfl, ?_⟩
    rw [if_pos rfl]
    exact ⟨rs, ι1, ρ, S1, d, S', R1, En1, hf, k.from E1⟩
  · rename_i S1 e
    cases hf
    refine tE.go R En e fun ι1 H1 v E1 R1 En1 a1 => ?_
    cases a1
    refine ⟨false, rfl, ?_⟩
    rw [if_neg (by decide)]
    exact k _ _ _ E1 R1 (.bl _)
  · cases hf
theorem de_or (ha : DE X a f) (hb : DE X (.BoolOp .Or (b :: rest) pos) g) : DE X (.BoolOp .Or (a :: b :: rest) pos) (cOr f g) := by
  refine PE.imp (pe_or ha hb) ?_
  rintro σ H Q ⟨rs, ι, ρ, S, d, S', R, En, hf, k⟩
  unfold cOr at hf
  split at hf
  · rename_i S1 e
    cases hf
    refine tE.go R En e fun ι1 H1 v E1 R1 En1 a1 => ?_
    cases a1
    refine ⟨true, rfl, ?_⟩
    rw [if_pos rfl]
    exact k _ _ _ E1 R1 (.bl _)
  · rename_i S1 e
    refine tE.go R En e fun ι1 H1 v E1 R1 En1 a1 => ?_
    cases a1
    refine ⟨false, rfl, ?_⟩
    rw [if_neg (by decide)]
    exact ⟨rs, ι1, ρ, S1, d, S', R1, En1, hf, k.from E1⟩
  · cases hf
theorem de_not (ha : DE X a f) : DE X (.UnaryOp .Not a pos) (cNot f) := by
  refine PE.imp (pe_not ha) ?_
  rintro σ H Q ⟨rs, ι, ρ, S, d, S', R, En, hf, k⟩
  unfold cNot at hf
  split at hf
  · rename_i c S1 e
    cases hf
    refine tE.go R En e fun ι1 H1 v E1 R1 En1 a1 => ?_
    cases a1
    exact ⟨_, rfl, k _ _ _ E1 R1 (.bl _)⟩
  · cases hf
def cIf (c : Gb) (f g : G) : G := fun ρ S => match c ρ S with
  | some (true, S1) => f ρ S1
  | some (false, S1) => g ρ S1
  | none => none
theorem de_ifExp (hc : DT X c ft) (ha : DE X a f) (hb : DE X b g) : DE X (.IfExp c a b pos) (cIf ft f g) := by
  refine PE.imp (pe_ifExp hc ha hb) ?_
  rintro σ H Q ⟨rs, ι, ρ, S, d, S', R, En, hf, k⟩
  unfold cIf at hf
  split at hf
  · rename_i S1 e
    refine tT.go R En e fun ι1 H1 E1 R1 En1 => ?_
    rw [if_pos rfl]
    exact ⟨rs, ι1, ρ, S1, d, S', R1, En1, hf, k.from E1⟩
  · rename_i S1 e
    refine tT.go R En e fun ι1 H1 E1 R1 En1 => ?_
    rw [if_neg (by decide)]
    exact ⟨rs, ι1, ρ, S1, d, S', R1, En1, hf, k.from E1⟩
  · cases hf

/-! ### argument lists, displays, calls -/
def cNil : Gs := fun _ S => some ([], S)
def cCons (f : G) (r : Gs) : Gs := fun ρ S => match f ρ S with
  | none => none
  | some (x, S1) => match r ρ S1 with
    | none => none
    | some (xs, S2) => some (x :: xs, S2)
variable {fs : Gs}
theorem da_nil : DA X [] cNil := by
  refine PA.imp pa_nil ?_
  rintro σ H Q ⟨rs, ι, ρ, S, d, S', R, En, hf, k⟩
  cases hf
  exact k _ _ _ Ext.refl R .nil
theorem cCons_of {K : PySem.W.Frag} : ∀ σ H Q, tL K (cCons f fs) σ H Q → tCons (tE K f) (tL K fs) σ H Q := by
  rintro σ H Q ⟨rs, ι, ρ, S, d, S', R, En, hf, k⟩
  unfold cCons at hf
  split at hf
  · cases hf
  · rename_i x S1 e1
    split at hf
    · cases hf
    · rename_i xs S2 e2
      cases hf
      refine tE.go R En e1 fun ι1 H1 v E1 R1 En1 a1 => ?_
      exact tL.go R1 En1 e2 fun ι2 H2 vs E2 R2 En2 a2 => k _ _ _ (E1.trans E2) R2 (.cons (a1.mono R1 E2) a2)
theorem da_cons (ha : DE X e f) (hr : DA X es fs) (hs : starEach (e :: es) X.env = (false, eval e X.env) :: starEach es X.env := by rfl) : DA X (e :: es) (cCons f fs) := PA.imp (pa_cons ha hr hs) cCons_of
/-- (a, b, ..) -/
def cTup (r : Gs) : G := fun ρ S => match r ρ S with
  | none => none
  | some (xs, S1) => if xs.length ≤ sizeLine then some (.tup xs, S1) else none
/-- [a, b, ..], only read behind it -/
def cLst (r : Gs) : G := fun ρ S => match r ρ S with
  | none => none
  | some (xs, S1) => if xs.length ≤ sizeLine then some (.lst xs, S1) else none
/-- [a, b, ..] that will change -/
def cNew (r : Gs) : G := fun ρ S => match r ρ S with
  | none => none
  | some (xs, S1) => if xs.length ≤ sizeLine then some (.ref S1.length, S1 ++ [.lst xs]) else none
theorem de_tup {n} (h : DA X es fs) : DE X (.Tuple es n pos) (cTup fs) := by
  refine PE.imp (pe_tup h) ?_
  rintro σ H Q ⟨rs, ι, ρ, S, d, S', R, En, hf, k⟩
  unfold cTup at hf
  split at hf
  · cases hf
  · rename_i xs S1 e1
    split at hf
    · rename_i z
      cases hf
      refine tL.go R En e1 fun ι1 H1 vs E1 R1 En1 a1 => ?_
      have z' : vs.length ≤ sizeLine := by rw [← a1.length]; exact z
      exact ⟨z', fun p hp => (k.from E1).tup R1 hp z' a1⟩
    · cases hf
theorem de_lst (h : DA X es fs) : DE X (.List es pos) (cLst fs) := by
  refine PE.imp (pe_lst h) ?_
  rintro σ H Q ⟨rs, ι, ρ, S, d, S', R, En, hf, k⟩
  unfold cLst at hf
  split at hf
  · cases hf
  · rename_i xs S1 e1
    split at hf
    · rename_i z
      cases hf
      refine tL.go R En e1 fun ι1 H1 vs E1 R1 En1 a1 => ?_
      have z' : vs.length ≤ sizeLine := by rw [← a1.length]; exact z
      exact ⟨z', fun p hp => (k.from E1).lst R1 hp z' a1⟩
    · cases hf
theorem de_new (h : DA X es fs) : DE X (.List es pos) (cNew fs) := by
  refine PE.imp (pe_lst h) ?_
  rintro σ H Q ⟨rs, ι, ρ, S, d, S', R, En, hf, k⟩
  unfold cNew at hf
  split at hf
  · cases hf
  · rename_i xs S1 e1
    split at hf
    · rename_i z
      cases hf
      refine tL.go R En e1 fun ι1 H1 vs E1 R1 En1 a1 => ?_
      have z' : vs.length ≤ sizeLine := by rw [← a1.length]; exact z
      exact ⟨z', fun p hp => (k.from E1).newL R1 hp z' a1⟩
    · cases hf
/-- f(..) of the text's own; dds: the defaults that fill up -/
def cCall (F : Fn) (dds : List D) (r : Gs) : G := fun ρ S => match r ρ S with
  | none => none
  | some (xs, S1) => F (xs ++ dds) S1
theorem cCall_of {K : PySem.W.Frag} {F : Fn} {dds : List D} {dvs : List V} (w : ∀ K ι N H, AtL K ι N H dds dvs) : ∀ σ H Q, tE K (cCall F dds fs) σ H Q → tCallG K F dvs (tL K fs) σ H Q := by
  rintro σ H Q ⟨rs, ι, ρ, S, d, S', R, En, hf, k⟩
  unfold cCall at hf
  split at hf
  · cases hf
  · rename_i xs S1 e1
    refine tL.go R En e1 fun ι1 H1 vs E1 R1 En1 a1 => ?_
    exact ⟨rs, ι1, S1, xs ++ dds, d, S', R1, a1.append (w _ _ _ _), hf, k.from E1⟩
theorem de_call {k : Nat} {fa : Addr} {fd : FuncData} {ps : List Str} {F : Fn} {x : Str} {p : Pos} (g : FG X.prog X.w X.K X.mg X.base k fa fd ps F) (hr : Room k X.A) (hgd : X.A.guards = some []) (hg : Gl X x) (hm : X.mg x = some (.ref fa)) (hk : PySem.W.keepIn X.K (.ref fa) = true) (hb : Binds X.K fd ps [])
    (ha : DA X (e :: es) fs) (hdb : (x == ("__debug__" : Str)) = false := by decide) (he : starEach (e :: es) X.env = (false, eval e X.env) :: starEach es X.env := by rfl)
    (hpl : (backTo pos (starEach es X.env)).any (·.1) = false := by rfl) :
    DE X (.Call (.Name x p) (e :: es) [] pos) (cCall F [] fs) := PE.imp (pe_callG g hr hgd hg hm hk hb .nil ha hdb he hpl) (cCall_of fun _ _ _ _ => .nil)
theorem de_call0 {k : Nat} {fa : Addr} {fd : FuncData} {ps : List Str} {F : Fn} {x : Str} {p : Pos} (g : FG X.prog X.w X.K X.mg X.base k fa fd ps F) (hr : Room k X.A) (hgd : X.A.guards = some []) (hg : Gl X x) (hm : X.mg x = some (.ref fa)) (hk : PySem.W.keepIn X.K (.ref fa) = true) (hb : Binds X.K fd ps [])
    (hdb : (x == ("__debug__" : Str)) = false := by decide) :
    DE X (.Call (.Name x p) [] [] pos) (cCall F [] cNil) := by
  refine PE.imp (pe_callG0 g hr hgd hg hm hk hb .nil hdb) ?_
  intro σ H Q q
  have := cCall_of (K := X.K) (F := F) (dds := []) (dvs := []) (fs := cNil) (fun _ _ _ _ => .nil) σ H Q q
  obtain ⟨rs, ι, ρ, S, d, S', R, En, hf, k⟩ := this
  cases hf
  exact k _ _ _ Ext.refl R .nil
/-- a built-in's call: what it gives of data, the store as it was -/
abbrev OpN := Sto → List D → Option D
def cOp (op : OpN) (r : Gs) : G := fun ρ S => match r ρ S with
  | none => none
  | some (xs, S1) => match op S1 xs with
    | none => none
    | some z => some (z, S1)
def ServesN (K : PySem.W.Frag) (r : List V → Hp → VK → Prop) (op : OpN) : Prop := ∀ (rs : Addr → Prop) (ι : Nat → Addr) (S : Sto) (H : Hp) (xs : List D) (vs : List V) (d : D) (Q : VK), Rel ⟨K, rs⟩ ι S H → AtL ⟨K, rs⟩ ι S.length H xs vs → op S xs = some d → Post ⟨K, rs⟩ ι S H S d Q → r vs H Q
theorem cOp_of {K : PySem.W.Frag} {r : List V → Hp → VK → Prop} {op : OpN} (hr : ServesN K r op) : ∀ σ H Q, tE K (cOp op fs) σ H Q → tCB r (tL K fs) σ H Q := by
  rintro σ H Q ⟨rs, ι, ρ, S, d, S', R, En, hf, k⟩
  unfold cOp at hf
  split at hf
  · cases hf
  · rename_i xs S1 e1
    split at hf
    · cases hf
    · rename_i z e2
      cases hf
      refine tL.go R En e1 fun ι1 H1 vs E1 R1 En1 a1 => ?_
      exact hr _ _ _ _ _ _ _ _ R1 a1 e2 (k.from E1)
theorem de_callB {id : String} {r : List V → Hp → VK → Prop} {op : OpN} {x : Str} {p : Pos} (hc : CallR X (.builtin id) r) (hs : ServesN X.K r op) (hg : Gl X x) (hm : X.mg x = none) (hv : bootBuiltins x = some (.builtin id)) (ha : DA X (e :: es) fs)
    (hn : x ≠ "__name__" := by decide) (hdb : (x == ("__debug__" : Str)) = false := by decide)
    (he : starEach (e :: es) X.env = (false, eval e X.env) :: starEach es X.env := by rfl) (hpl : (backTo pos (starEach es X.env)).any (·.1) = false := by rfl) : DE X (.Call (.Name x p) (e :: es) [] pos) (cOp op fs) :=
  PE.imp (pe_callB hc hg hm hv ha hn hdb he hpl) (cOp_of hs)
theorem de_callTy {T : String} {r : List V → Hp → VK → Prop} {op : OpN} {x : Str} {p : Pos} (hc : CallR X (.type T) r) (hs : ServesN X.K r op) (hg : Gl X x) (hm : X.mg x = none) (hv : bootBuiltins x = some (.type T)) (ha : DA X (e :: es) fs)
    (hn : x ≠ "__name__" := by decide) (hdb : (x == ("__debug__" : Str)) = false := by decide)
    (he : starEach (e :: es) X.env = (false, eval e X.env) :: starEach es X.env := by rfl) (hpl : (backTo pos (starEach es X.env)).any (·.1) = false := by rfl) : DE X (.Call (.Name x p) (e :: es) [] pos) (cOp op fs) :=
  PE.imp (pe_callTy hc hg hm hv ha hn hdb he hpl) (cOp_of hs)
end
end FS
set_option Elab.async false
set_option linter.all false
set_option maxRecDepth 100000
set_option maxHeartbeats 4000000
namespace FS
open PySem PySem.Spec PyProof.Rows L2

/-! ### data as PyData -/
mutual
def pyD : D → Option PyData
  | .non => some .none
  | .bl b => some (.bool b)
  | .int i => some (.int i)
  | .str x => some (.str x)
  | .tup xs => (pyDs xs).map .tuple
  | .lst xs => (pyDs xs).map .list
  | .scr xs => (pyDs xs).map .list
  | .ref _ => none
def pyDs : List D → Option (List PyData)
  | [] => some []
  | x :: xs => match pyD x, pyDs xs with
    | some y, some ys => some (y :: ys)
    | _, _ => none
end
section
variable {K : KR} {ι : Nat → Addr} {N : Nat} {H : Hp}
mutual
theorem pyD_at : ∀ {d : D} {v : V} {p : PyData}, At K ι N H d v → pyD d = some p → Dp K.k H v p
  | _, _, _, .non, e => by simp only [pyD] at e; cases e; exact .non
  | _, _, _, .bl b, e => by simp only [pyD] at e; cases e; exact .bl b
  | _, _, _, .int i, e => by simp only [pyD] at e; cases e; exact .int i
  | _, _, _, .str x, e => by simp only [pyD] at e; cases e; exact .str x
  | _, _, _, .tup h z l, e => by
    simp only [pyD, Option.map_eq_some_iff] at e
    obtain ⟨ps, e1, e2⟩ := e
    subst e2
    exact .tup h (pyDs_at l e1)
  | _, _, _, .lst h z l, e => by
    simp only [pyD, Option.map_eq_some_iff] at e
    obtain ⟨ps, e1, e2⟩ := e
    subst e2
    exact .lst h.sq (pyDs_at l e1)
  | _, _, _, .scr h z l, e => by
    simp only [pyD, Option.map_eq_some_iff] at e
    obtain ⟨ps, e1, e2⟩ := e
    subst e2
    exact .lst h.sq (pyDs_at l e1)
  | _, _, _, .ref h, e => by simp only [pyD] at e; cases e
theorem pyDs_at : ∀ {ds : List D} {vs : List V} {ps : List PyData}, AtL K ι N H ds vs → pyDs ds = some ps → DpAll K.k H vs ps
  | _, _, _, .nil, e => by simp only [pyDs] at e; cases e; exact .nil
  | _, _, _, .cons h t, e => by
    simp only [pyDs] at e
    split at e
    · rename_i y ys e1 e2
      cases e
      exact .cons (pyD_at h e1) (pyDs_at t e2)
    · cases e
end
end
/-- a list that changes, looked at as it stands -/
def seen (S : Sto) : D → D
  | .ref n => match S[n]? with
    | some (.lst xs) => .lst xs
    | _ => .ref n
  | d => d
theorem seen_at {K : KR} {ι : Nat → Addr} {S : Sto} {H : Hp} {d : D} {v : V} {p : PyData} (R : Rel K ι S H) (a : At K ι S.length H d v) (e : pyD (seen S d) = some p) : Dp K.k H v p := by
  cases a with
  | @ref n h =>
    simp only [seen] at e
    split at e
    · rename_i xs hx
      obtain ⟨vs, q, l, z⟩ := R.obj n _ hx
      simp only [pyD, Option.map_eq_some_iff] at e
      obtain ⟨ps, e1, e2⟩ := e
      subst e2
      exact .lst (.of q) (pyDs_at l e1)
    · simp only [pyD] at e; cases e
  | non => exact pyD_at (ι := ι) (N := S.length) .non e
  | bl b => exact pyD_at (ι := ι) (N := S.length) (.bl b) e
  | int i => exact pyD_at (ι := ι) (N := S.length) (.int i) e
  | str x => exact pyD_at (ι := ι) (N := S.length) (.str x) e
  | tup h z l => exact pyD_at (.tup h z l) e
  | lst h z l => exact pyD_at (.lst h z l) e
  | scr h z l => exact pyD_at (.scr h z l) e

/-! ### operators -/
section
variable {X : Cx}
def intO (g : Int → Int → Option D) : Op2 := fun _ x y => match x, y with
  | .int i, .int j => g i j
  | _, _ => none
theorem serves_rI {C : Int → Int → Prop} [∀ i j, Decidable (C i j)] {g : Int → Int → V} {gd : Int → Int → D} (w : ∀ K ι N H i j, At K ι N H (gd i j) (g i j)) : Serves2 X.K (rI C g) (intO fun i j => if C i j then some (gd i j) else none) := by
  intro rs ι S H x y v u d Q R a1 a2 e k
  unfold intO at e
  split at e
  · dsimp only at e
    split at e
    · rename_i hc
      cases a1; cases a2; cases e
      exact ⟨_, _, rfl, rfl, hc, k.same R (w _ _ _ _ _ _)⟩
    · cases e
  · cases e
theorem serves_rI0 {g : Int → Int → V} {gd : Int → Int → D} (w : ∀ K ι N H i j, At K ι N H (gd i j) (g i j)) : Serves2 X.K (rI0 g) (intO fun i j => some (gd i j)) := by
  intro rs ι S H x y v u d Q R a1 a2 e k
  unfold intO at e
  split at e
  · cases a1; cases a2; cases e
    exact ⟨_, _, rfl, rfl, k.same R (w _ _ _ _ _ _)⟩
  · cases e
/-- sums -/
def addO : Op2 := fun S x y => match x, y with
  | .int i, .int j => some (.int (i + j))
  | .str a, .str b => if a.length + b.length ≤ sizeLine then some (.str (a ++ b)) else none
  | .tup a, .tup b => if a.length + b.length ≤ sizeLine then some (.tup (a ++ b)) else none
  | x, y => match lmOf S x, lmOf S y with
    | some a, some b => if a.length + b.length ≤ sizeLine then some (.lst (a ++ b)) else none
    | _, _ => none
def rSumOf (K : PySem.W.Frag) : R2 := fun x y H Q => rI0 (fun i j => .int (i + j)) x y H Q ∨ (∃ i j, x = .str i ∧ y = .str j ∧ i.length + j.length ≤ sizeLine ∧ Q (.str (i ++ j)) H) ∨ rCatA K x y H Q ∨ rCat x y H Q
theorem op_sumOf : OpR X (binaryOp .Add) (rSumOf X.K) := op_add.or (op_add_str.or (op_catA.or op_cat))
theorem addO_ok : Serves2 X.K (rSumOf X.K) addO := by
  intro rs ι S H x y v u d Q R a1 a2 e k
  unfold addO at e
  split at e
  · cases a1; cases a2; cases e
    exact .inl ⟨_, _, rfl, rfl, k.same R (.int _)⟩
  · split at e
    · rename_i hz
      cases a1; cases a2; cases e
      exact .inr (.inl ⟨_, _, rfl, rfl, hz, k.same R (.str _)⟩)
    · cases e
  · split at e
    · rename_i hz
      cases a1 with
      | tup h1 z1 l1 =>
        cases a2 with
        | tup h2 z2 l2 =>
          cases e
          rename_i a b p1 v1 p2 v2
          have n1 := l1.length
          have n2 := l2.length
          have la : (v1 ++ v2).length ≤ sizeLine := by rw [List.length_append]; omega
          refine .inr (.inr (.inl ⟨_, _, _, _, rfl, rfl, h1, h2, by omega, fun ea => ?_, fun _ eb => ?_, fun _ _ p hp => ?_⟩))
          · subst ea
            cases l1
            exact k.same R (.tup h2 z2 l2)
          · subst eb
            cases l2
            rw [List.append_nil] at k
            exact k.same R (.tup h1 z1 l1)
          · exact k.tup R hp la (l1.append l2)
    · cases e
  · split at e
    · rename_i a b e1 e2
      split at e
      · rename_i hz
        cases e
        obtain ⟨p1, v1, rfl, h1, z1, l1⟩ := lmOf_at R a1 e1
        obtain ⟨p2, v2, rfl, h2, z2, l2⟩ := lmOf_at R a2 e2
        have n1 := l1.length
        have n2 := l2.length
        refine .inr (.inr (.inr ⟨_, _, _, _, rfl, rfl, h1, h2, by omega, fun p hp => ?_⟩))
        exact k.lst R hp (by rw [List.length_append]; omega) (l1.append l2)
      · cases e
    · cases e
theorem de_add {a b : Expr} {f g : G} {pos : Pos} (ha : DE X a f) (hb : DE X b g) : DE X (.BinOp a .Add b pos) (cBin addO f g) := de_op op_sumOf addO_ok ha hb
def subO : Op2 := intO fun i j => some (.int (i - j))
theorem de_sub {a b : Expr} {f g : G} {pos : Pos} (ha : DE X a f) (hb : DE X b g) : DE X (.BinOp a .Sub b pos) (cBin subO f g) := de_op op_sub (serves_rI0 fun _ _ _ _ _ _ => .int _) ha hb
instance : ∀ i j, Decidable (CMul i j) := fun i j => by unfold CMul; infer_instance
instance : ∀ i j, Decidable (CPow i j) := fun i j => by unfold CPow; infer_instance
instance : ∀ i j, Decidable (CDiv i j) := fun i j => by unfold CDiv; infer_instance
def mulO : Op2 := intO fun i j => if CMul i j then some (.int (i * j)) else none
theorem de_mul {a b : Expr} {f g : G} {pos : Pos} (ha : DE X a f) (hb : DE X b g) : DE X (.BinOp a .Mult b pos) (cBin mulO f g) := de_op op_mul (serves_rI fun _ _ _ _ _ _ => .int _) ha hb
def divO : Op2 := intO fun i j => if CDiv i j then some (.int (i / j)) else none
theorem de_div {a b : Expr} {f g : G} {pos : Pos} (ha : DE X a f) (hb : DE X b g) : DE X (.BinOp a .FloorDiv b pos) (cBin divO f g) := de_op op_fdiv (serves_rI fun _ _ _ _ _ _ => .int _) ha hb
def modO : Op2 := intO fun i j => if 0 < j then some (.int (i % j)) else none
theorem de_mod {a b : Expr} {f g : G} {pos : Pos} (ha : DE X a f) (hb : DE X b g) : DE X (.BinOp a .Mod b pos) (cBin modO f g) := de_op op_mod (serves_rI fun _ _ _ _ _ _ => .int _) ha hb
def powO : Op2 := intO fun i j => if CPow i j then some (.int (i ^ j.toNat)) else none
theorem de_pow {a b : Expr} {f g : G} {pos : Pos} (ha : DE X a f) (hb : DE X b g) : DE X (.BinOp a .Pow b pos) (cBin powO f g) := de_op op_pow (serves_rI fun _ _ _ _ _ _ => .int _) ha hb
/-- a tuple said several times -/
def repO : Op2 := fun _ x y => match x, y with
  | .tup xs, .int k => if xs ≠ [] ∧ 2 ≤ k ∧ k ≤ 1000 ∧ xs.length ≤ 1000 then some (.tup (List.replicate k.toNat xs).flatten) else none
  | _, _ => none
theorem AtL.rep {K : KR} {ι : Nat → Addr} {N : Nat} {H : Hp} {ds : List D} {vs : List V} (a : AtL K ι N H ds vs) : ∀ k : Nat, AtL K ι N H (List.replicate k ds).flatten (List.replicate k vs).flatten
  | 0 => .nil
  | k + 1 => by
    rw [List.replicate_succ, List.replicate_succ, List.flatten_cons, List.flatten_cons]
    exact a.append (a.rep k)
theorem rep_len {α : Type} (xs : List α) : ∀ k : Nat, (List.replicate k xs).flatten.length = k * xs.length
  | 0 => by simp
  | k + 1 => by rw [List.replicate_succ, List.flatten_cons, List.length_append, rep_len xs k, Nat.succ_mul, Nat.add_comm]
theorem repO_ok : Serves2 X.K (rRepT X.K) repO := by
  intro rs ι S H x y v u d Q R a1 a2 e k
  unfold repO at e
  split at e
  · split at e
    · rename_i hc
      obtain ⟨h0, h1, h2, h3⟩ := hc
      cases a1 with
      | tup q z l =>
        cases a2
        cases e
        rename_i kk p vs
        have n1 := l.length
        have hz : (List.replicate kk.toNat vs).flatten.length ≤ sizeLine := by
          rw [rep_len, sizeLine_eq]
          have : kk.toNat * vs.length ≤ 1000 * 1000 := Nat.mul_le_mul (by omega) (by omega)
          omega
        refine ⟨_, _, _, rfl, rfl, q, fun z0 => ?_, h1, h2, by omega, fun p hp => k.tup R hp hz (l.rep _)⟩
        subst z0
        cases l
        exact h0 rfl
    · cases e
  · cases e
theorem de_rep {a b : Expr} {f g : G} {pos : Pos} (ha : DE X a f) (hb : DE X b g) : DE X (.BinOp a .Mult b pos) (cBin repO f g) := de_op op_repT repO_ok ha hb

/-! ### comparisons -/
def ltO : Op2 := intO fun i j => some (.bl (decide (i < j)))
def leO : Op2 := intO fun i j => some (.bl (decide (i ≤ j)))
def gtO : Op2 := intO fun i j => some (.bl (decide (j < i)))
def geO : Op2 := intO fun i j => some (.bl (decide (j ≤ i)))
variable {a b c : Expr} {f g h : G} {pos : Pos}
theorem de_lt (ha : DE X a f) (hb : DE X b g) : DE X (.Compare a [.Lt] [b] pos) (cBin ltO f g) := de_cmp op_lt (serves_rI0 fun _ _ _ _ _ _ => .bl _) ha hb (nomark _)
theorem de_le (ha : DE X a f) (hb : DE X b g) : DE X (.Compare a [.LtE] [b] pos) (cBin leO f g) := de_cmp op_le (serves_rI0 fun _ _ _ _ _ _ => .bl _) ha hb (nomark _)
theorem de_gt (ha : DE X a f) (hb : DE X b g) : DE X (.Compare a [.Gt] [b] pos) (cBin gtO f g) := de_cmp op_gt (serves_rI0 fun _ _ _ _ _ _ => .bl _) ha hb (nomark _)
theorem de_ge (ha : DE X a f) (hb : DE X b g) : DE X (.Compare a [.GtE] [b] pos) (cBin geO f g) := de_cmp op_ge (serves_rI0 fun _ _ _ _ _ _ => .bl _) ha hb (nomark _)
/-- equal, as data -/
def eqF (neg : Bool) (b : Bool) : Option D := some (.bl (if neg then !b else b))
def eqO (neg : Bool) : Op2 := fun S x y => match x, y with
  | .str a, .str b => eqF neg (a == b)
  | .int a, .int b => eqF neg (decide (a = b))
  | .bl a, .bl b => eqF neg (a == b)
  | .non, .non => eqF neg true
  | .int _, .non => eqF neg false
  | .str _, .non => eqF neg false
  | .int _, .str _ => eqF neg false
  | .str _, .int _ => eqF neg false
  | x, y => match pyD (seen S x), pyD (seen S y) with
    | some p, some q => if SeqAt.shaped p = true ∧ SeqAt.shaped q = true then some (.bl (if neg then !PyData.eqv p q else PyData.eqv p q)) else none
    | _, _ => none
def rEqA (K : PySem.W.Frag) : R2 := fun x y H Q => rEq x y H Q ∨ rEqD K x y H Q
def rNeA (K : PySem.W.Frag) : R2 := fun x y H Q => rNe x y H Q ∨ rNeD K x y H Q
theorem eqO_ok : Serves2 X.K (rEqA X.K) (eqO false) := by
  intro rs ι S H x y v u d Q R a1 a2 e k
  unfold eqO at e
  split at e
  iterate 8
    · unfold eqF at e
      cases e
      cases a1
      cases a2
      refine .inl ⟨rfl, ?_⟩
      refine (congrFun (congrArg Q (congrArg V.bl ?_)) H).mpr (k.same R (.bl _))
      (first | (simp; done) | (simp only [if_false, if_true, Bool.false_eq_true]; rw [Bool.eq_iff_iff]; simp))
  · split at e
    · rename_i p q e1 e2
      split at e
      · rename_i hs
        cases e
        exact .inr ⟨p, q, seen_at R a1 e1, seen_at R a2 e2, hs.1, hs.2, k.same R (.bl _)⟩
      · cases e
    · cases e
theorem neO_ok : Serves2 X.K (rNeA X.K) (eqO true) := by
  intro rs ι S H x y v u d Q R a1 a2 e k
  unfold eqO at e
  split at e
  iterate 8
    · unfold eqF at e
      cases e
      cases a1
      cases a2
      refine .inl ⟨rfl, ?_⟩
      refine (congrFun (congrArg Q (congrArg V.bl ?_)) H).mpr (k.same R (.bl _))
      (first | (simp; done) | (simp only [if_false, if_true, Bool.false_eq_true]; rw [Bool.eq_iff_iff]; simp))
  · split at e
    · rename_i p q e1 e2
      split at e
      · rename_i hs
        cases e
        exact .inr ⟨p, q, seen_at R a1 e1, seen_at R a2 e2, hs.1, hs.2, k.same R (.bl _)⟩
      · cases e
    · cases e
theorem de_eq {k : Nat} (hr : Room k X.A) (ha : DE X a f) (hb : DE X b g) : DE X (.Compare a [.Eq] [b] pos) (cBin (eqO false) f g) := de_cmp (op_eq.or (op_eqD hr.units)) eqO_ok ha hb (nomark _)
theorem de_ne {k : Nat} (hr : Room k X.A) (ha : DE X a f) (hb : DE X b g) : DE X (.Compare a [.NotEq] [b] pos) (cBin (eqO true) f g) := de_cmp (op_ne.or (op_neD hr.units)) neO_ok ha hb (nomark _)
/-- x is None -/
def isO (neg : Bool) : Op2 := fun _ x y => match x, y with
  | .non, .non => some (.bl (!neg))
  | .bl _, .non => some (.bl neg)
  | .int _, .non => some (.bl neg)
  | .str _, .non => some (.bl neg)
  | .tup _, .non => some (.bl neg)
  | .lst _, .non => some (.bl neg)
  | .ref _, .non => some (.bl neg)
  | _, _ => none
theorem isO_ok : Serves2 X.K (fun x y H Q => y = .non ∧ Q (.bl (decide (x = .non))) H) (isO false) := by
  intro rs ι S H x y v u d Q R a1 a2 e k
  unfold isO at e
  split at e <;> first
    | (cases a1; cases a2; cases e; exact ⟨rfl, k.same R (.bl _)⟩)
    | cases e
theorem isnO_ok : Serves2 X.K (fun x y H Q => y = .non ∧ Q (.bl (!decide (x = .non))) H) (isO true) := by
  intro rs ι S H x y v u d Q R a1 a2 e k
  unfold isO at e
  split at e <;> first
    | (cases a1; cases a2; cases e; exact ⟨rfl, k.same R (.bl _)⟩)
    | cases e
theorem de_isN (ha : DE X a f) (hb : DE X b g) : DE X (.Compare a [.Is] [b] pos) (cBin (isO false) f g) := de_cmp op_isN isO_ok ha hb (nomark _)
theorem de_notN (ha : DE X a f) (hb : DE X b g) : DE X (.Compare a [.IsNot] [b] pos) (cBin (isO true) f g) := de_cmp op_notN isnO_ok ha hb (nomark _)
/-- among flat items -/
def flatD : D → Option V
  | .non => some .non
  | .bl b => some (.bl b)
  | .int i => some (.int i)
  | .str x => some (.str x)
  | _ => none
def flatDs : List D → Option (List V)
  | [] => some []
  | x :: xs => match flatD x, flatDs xs with
    | some y, some ys => some (y :: ys)
    | _, _ => none
theorem flatD_at {K : KR} {ι : Nat → Addr} {N : Nat} {H : Hp} {d : D} {v w : V} (a : At K ι N H d v) (e : flatD d = some w) : v = w ∧ flatV v = true := by
  cases a <;> first
    | (simp only [flatD] at e; cases e; exact ⟨rfl, rfl⟩)
    | (simp only [flatD] at e; cases e)
theorem flatDs_at {K : KR} {ι : Nat → Addr} {N : Nat} {H : Hp} : ∀ {ds : List D} {vs ws : List V}, AtL K ι N H ds vs → flatDs ds = some ws → vs = ws ∧ vs.all flatV = true
  | _, _, _, .nil, e => by simp only [flatDs] at e; cases e; exact ⟨rfl, rfl⟩
  | _, _, _, .cons h t, e => by
    simp only [flatDs] at e
    split at e
    · rename_i y ys e1 e2
      cases e
      obtain ⟨q1, q2⟩ := flatD_at h e1
      obtain ⟨q3, q4⟩ := flatDs_at t e2
      exact ⟨by rw [q1, q3], by rw [List.all_cons, q2, q4]; rfl⟩
    · cases e
def inO (neg : Bool) : Op2 := fun S x y => match sqOf S y with
  | some ys => match flatD x, flatDs ys with
    | some v, some vs => some (.bl (if neg then !inV v vs else inV v vs))
    | _, _ => none
  | none => none
theorem inO_ok (neg : Bool) : Serves2 X.K (rIn X.K neg) (inO neg) := by
  intro rs ι S H x y v u d Q R a1 a2 e k
  unfold inO at e
  split at e
  · rename_i ys e0
    split at e
    · rename_i w ws e1 e2
      cases e
      obtain ⟨p, vs, rfl, hq, z, l⟩ := sqOf_at R a2 e0
      obtain ⟨rfl, q1⟩ := flatD_at a1 e1
      obtain ⟨rfl, q2⟩ := flatDs_at l e2
      exact ⟨p, _, rfl, hq, q1, q2, k.same R (.bl _)⟩
    · cases e
  · cases e
theorem de_in (ha : DE X a f) (hb : DE X b g) (hm : behindInMarks .In b = false := by rfl) : DE X (.Compare a [.In] [b] pos) (cBin (inO false) f g) := de_cmp op_in_seq (inO_ok false) ha hb hm
theorem de_notIn (ha : DE X a f) (hb : DE X b g) (hm : behindInMarks .NotIn b = false := by rfl) : DE X (.Compare a [.NotIn] [b] pos) (cBin (inO true) f g) := de_cmp op_notIn_seq (inO_ok true) ha hb hm
theorem dt_lt (ha : DE X a f) (hb : DE X b g) : DT X (.Compare a [.Lt] [b] pos) (cTest (cBin ltO f g)) := dt_cmp op_lt (serves_rI0 fun _ _ _ _ _ _ => .bl _) ha hb (nomark _)
theorem dt_le (ha : DE X a f) (hb : DE X b g) : DT X (.Compare a [.LtE] [b] pos) (cTest (cBin leO f g)) := dt_cmp op_le (serves_rI0 fun _ _ _ _ _ _ => .bl _) ha hb (nomark _)
theorem dt_gt (ha : DE X a f) (hb : DE X b g) : DT X (.Compare a [.Gt] [b] pos) (cTest (cBin gtO f g)) := dt_cmp op_gt (serves_rI0 fun _ _ _ _ _ _ => .bl _) ha hb (nomark _)
theorem dt_ge (ha : DE X a f) (hb : DE X b g) : DT X (.Compare a [.GtE] [b] pos) (cTest (cBin geO f g)) := dt_cmp op_ge (serves_rI0 fun _ _ _ _ _ _ => .bl _) ha hb (nomark _)
theorem dt_eq {k : Nat} (hr : Room k X.A) (ha : DE X a f) (hb : DE X b g) : DT X (.Compare a [.Eq] [b] pos) (cTest (cBin (eqO false) f g)) := dt_cmp (op_eq.or (op_eqD hr.units)) eqO_ok ha hb (nomark _)
theorem dt_ne {k : Nat} (hr : Room k X.A) (ha : DE X a f) (hb : DE X b g) : DT X (.Compare a [.NotEq] [b] pos) (cTest (cBin (eqO true) f g)) := dt_cmp (op_ne.or (op_neD hr.units)) neO_ok ha hb (nomark _)
theorem dt_isN (ha : DE X a f) (hb : DE X b g) : DT X (.Compare a [.Is] [b] pos) (cTest (cBin (isO false) f g)) := dt_cmp op_isN isO_ok ha hb (nomark _)
theorem dt_notN (ha : DE X a f) (hb : DE X b g) : DT X (.Compare a [.IsNot] [b] pos) (cTest (cBin (isO true) f g)) := dt_cmp op_notN isnO_ok ha hb (nomark _)
theorem dt_in (ha : DE X a f) (hb : DE X b g) (hm : behindInMarks .In b = false := by rfl) : DT X (.Compare a [.In] [b] pos) (cTest (cBin (inO false) f g)) := dt_cmp op_in_seq (inO_ok false) ha hb hm
theorem dt_notIn (ha : DE X a f) (hb : DE X b g) (hm : behindInMarks .NotIn b = false := by rfl) : DT X (.Compare a [.NotIn] [b] pos) (cTest (cBin (inO true) f g)) := dt_cmp op_notIn_seq (inO_ok true) ha hb hm
/-- one part -/
def cUn (op : D → Option D) (f : G) : G := fun ρ S => match f ρ S with
  | none => none
  | some (x, S1) => match op x with
    | none => none
    | some z => some (z, S1)
def negO : D → Option D
  | .int i => some (.int (-i))
  | _ => none
theorem de_neg (ha : DE X a f) : DE X (.UnaryOp .USub a pos) (cUn negO f) := by
  refine PE.imp (pe_un un_neg ha) ?_
  rintro σ H Q ⟨rs, ι, ρ, S, d, S', R, En, hf, k⟩
  unfold cUn at hf
  split at hf
  · cases hf
  · rename_i x S1 e1
    split at hf
    · cases hf
    · rename_i z e2
      cases hf
      refine tE.go R En e1 fun ι1 H1 v E1 R1 En1 a1 => ?_
      unfold negO at e2
      split at e2
      · cases e2
        cases a1
        exact ⟨_, rfl, k _ _ _ E1 R1 (.int _)⟩
      · cases e2
end
end FS
set_option Elab.async false
set_option linter.all false
set_option maxRecDepth 100000
set_option maxHeartbeats 4000000
namespace FS
open PySem PySem.Spec PyProof.Rows L2

section
variable {X : Cx} {a b c o e : Expr} {es : List Expr} {f g h : G} {fs : Gs} {pos : Pos}
/-! ### an item by its place -/
theorem AtL.at {K : KR} {ι : Nat → Addr} {N : Nat} {H : Hp} {ds : List D} {vs : List V} {i : Int} {d : D} (l : AtL K ι N H ds vs) (e : atI ds i = some d) : ∃ v, atI vs i = some v ∧ At K ι N H d v := by
  unfold atI at e ⊢
  rw [← l.length]
  cases h : ixN ds.length i with
  | none => rw [h] at e; cases e
  | some j =>
    rw [h] at e
    obtain ⟨v, q, w⟩ := l.get (i := j) e
    exact ⟨v, q, w⟩
def ixO : Op2 := fun S x y => match x, y with
  | .str z, .int i => if z.length ≤ sizeLine then (atI z.cps.toList i).map fun c => .str ⟨#[c]⟩ else none
  | x, .int i => match sqOf S x with
    | some xs => atI xs i
    | none => none
  | _, _ => none
theorem ixO_ok : Serves2 X.K (rIx X.K) ixO := by
  intro rs ι S H x y v u d Q R a1 a2 e k
  unfold ixO at e
  split at e
  · split at e
    · rename_i hz
      cases a1; cases a2
      obtain ⟨c, e1, e2⟩ := Option.map_eq_some_iff.mp e
      subst e2
      exact .inr (.inr ⟨_, _, c, rfl, rfl, hz, e1, k.same R (.str _)⟩)
    · cases e
  · split at e
    · rename_i xs e1
      cases a2
      obtain ⟨p, vs, rfl, hq, z, l⟩ := sqOf_at R a1 e1
      obtain ⟨w, q, aw⟩ := l.at e
      rcases hq with hq | hq
      · exact .inl ⟨p, vs, _, w, rfl, rfl, hq, q, k.same R aw⟩
      · exact .inr (.inl ⟨p, vs, _, w, rfl, rfl, hq, q, k.same R aw⟩)
    · cases e
  · cases e
theorem de_ix (ha : DE X a f) (hb : DE X b g) (hs : PlainIx b := by intro _ _; rfl) : DE X (.Subscript a b pos) (cBin ixO f g) := PE.imp (pe_ix ix_seq ha hb hs) (cBin_of ixO_ok)

/-! ### slices -/
abbrev Gp := Rho → Sto → Option (Option Int × Sto)
def tP (K : PySem.W.Frag) (f : Gp) : TO := fun σ H Q => ∃ (rs : Addr → Prop) (ι : Nat → Addr) (ρ : Rho) (S : Sto) (p : Option Int) (S' : Sto), Rel ⟨K, rs⟩ ι S H ∧ EnvAt ⟨K, rs⟩ ι S.length H ρ σ ∧ f ρ S = some (p, S') ∧ ∀ ι' H', Ext ι S.length H ι' S'.length H' → Rel ⟨K, rs⟩ ι' S' H' → Q p H'
abbrev DO (X : Cx) (e : Option Expr) (f : Gp) : Prop := PO X e (tP X.K f)
theorem PO.imp {e : Option Expr} {t t' : TO} (h : PO X e t) (i : ∀ σ H Q, t' σ H Q → t σ H Q) : PO X e t' := ⟨fun pins s σ H Q I q => h.run pins s σ H Q I (i _ _ _ q)⟩
def cNoP : Gp := fun _ S => some (none, S)
def cP (f : G) : Gp := fun ρ S => match f ρ S with
  | some (.int i, S1) => some (some i, S1)
  | _ => none
theorem do_none : DO X none cNoP := by
  refine PO.imp po_none ?_
  rintro σ H Q ⟨rs, ι, ρ, S, p, S', R, En, hf, k⟩
  cases hf
  exact k _ _ Ext.refl R
theorem do_some (he : DE X e f) : DO X (some e) (cP f) := by
  refine PO.imp (po_some he) ?_
  rintro σ H Q ⟨rs, ι, ρ, S, p, S', R, En, hf, k⟩
  unfold cP at hf
  split at hf
  · rename_i i S1 e1
    cases hf
    refine tE.go R En e1 fun ι1 H1 v E1 R1 En1 a1 => ?_
    cases a1
    exact ⟨_, rfl, k _ _ E1 R1⟩
  · cases hf
def cutD {α : Type} (xs : List α) (lo hi : Option Int) : List α := (xs.drop (HT.sIx xs.length 0 lo)).take (HT.sIx xs.length xs.length hi - HT.sIx xs.length 0 lo)
theorem AtL.cut {K : KR} {ι : Nat → Addr} {N : Nat} {H : Hp} {ds : List D} {vs : List V} (l : AtL K ι N H ds vs) (lo hi : Option Int) : AtL K ι N H (cutD ds lo hi) (cutV vs lo hi) := by
  unfold cutD cutV
  rw [l.length]
  exact (l.drop _).take _
def sliceO (S : Sto) (x : D) (lo hi : Option Int) : Option D := match x with
  | .tup xs => some (.tup (cutD xs lo hi))
  | x => (lsOf S x).map fun xs => .lst (cutD xs lo hi)
def cSl (f : G) (l u : Gp) : G := fun ρ S => match f ρ S with
  | none => none
  | some (x, S1) => match l ρ S1 with
    | none => none
    | some (lo, S2) => match u ρ S2 with
      | none => none
      | some (hi, S3) => match sliceO S3 x lo hi with
        | none => none
        | some d => some (d, S3)
def rSlice (K : PySem.W.Frag) : V → Option Int → Option Int → Hp → VK → Prop := fun x lo hi H Q => rSlA K x lo hi H Q ∨ rSlL K x lo hi H Q
theorem sl_both : SlR X (rSlice X.K) := sl_tupA.or sl_list
theorem whole_cut {α : Type} (xs : List α) {lo hi : Option Int} (h : HT.sIx xs.length 0 lo = 0 ∧ HT.sIx xs.length xs.length hi = xs.length) : cutD xs lo hi = xs := by
  unfold cutD
  rw [h.1, h.2]
  simp
theorem sliceO_ok {rs : Addr → Prop} {ι : Nat → Addr} {S : Sto} {H : Hp} {x : D} {v : V} {lo hi : Option Int} {d : D} {Q : VK} (R : Rel ⟨X.K, rs⟩ ι S H) (a1 : At ⟨X.K, rs⟩ ι S.length H x v) (e : sliceO S x lo hi = some d) (k : Post ⟨X.K, rs⟩ ι S H S d Q) : rSlice X.K v lo hi H Q := by
  unfold sliceO at e
  split at e
  · cases a1 with
    | tup h z l =>
      cases e
      have n1 := l.length
      refine .inl ⟨_, _, rfl, h, fun hw => ?_, fun _ p hp => k.tup R hp (Nat.le_trans (cutV_length _ _ _) z) (l.cut lo hi)⟩
      rw [← n1] at hw
      rw [whole_cut _ hw] at k
      exact k.same R (.tup h z l)
  · obtain ⟨xs, e1, e2⟩ := Option.map_eq_some_iff.mp e
    subst e2
    obtain ⟨p, vs, rfl, hq, z, l⟩ := lsOf_at R a1 e1
    exact .inr ⟨p, vs, rfl, hq, fun p hp => k.lst R hp (Nat.le_trans (cutV_length _ _ _) z) (l.cut lo hi)⟩
theorem de_slice {lo hi : Option Expr} {l u : Gp} {p2 : Pos} (ha : DE X a f) (hl : DO X lo l) (hu : DO X hi u) : DE X (.Subscript a (.Slice lo hi none p2) pos) (cSl f l u) := by
  refine PE.imp (pe_slice sl_both ha hl hu) ?_
  rintro σ H Q ⟨rs, ι, ρ, S, d, S', R, En, hf, k⟩
  unfold cSl at hf
  split at hf
  · cases hf
  · rename_i x S1 e1
    split at hf
    · cases hf
    · rename_i o1 S2 e2
      split at hf
      · cases hf
      · rename_i o2 S3 e3
        split at hf
        · cases hf
        · rename_i d1 e4
          cases hf
          refine tE.go R En e1 fun ι1 H1 v E1 R1 En1 a1 => ?_
          refine ⟨rs, ι1, ρ, S1, o1, S2, R1, En1, e2, fun ι2 H2 E2 R2 => ?_⟩
          refine ⟨rs, ι2, ρ, S2, o2, _, R2, En1.mono R1 E2, e3, fun ι3 H3 E3 R3 => ?_⟩
          exact sliceO_ok R3 ((a1.mono R1 E2).mono R2 E3) e4 (k.from (E1.trans (E2.trans E3)))

/-! ### built-in functions -/
def lenO : OpN := fun S ds => match ds with
  | [.str z] => if z.length ≤ sizeLine then some (.int z.length) else none
  | [d] => (sqOf S d).map fun xs => .int xs.length
  | _ => none
theorem lenO_ok : ServesN X.K (fun xs H Q => ∃ x n, xs = [x] ∧ LenV X.K x H n ∧ Q (.int n) H) lenO := by
  intro rs ι S H ds vs d Q R a1 e k
  unfold lenO at e
  split at e
  · split at e
    · rename_i z hz
      cases e
      cases a1 with
      | cons h t => cases h; cases t; exact ⟨_, _, rfl, ⟨hz, rfl⟩, k.same R (.int _)⟩
    · cases e
  · cases a1 with
    | cons h t =>
      cases t
      obtain ⟨xs, e1, e2⟩ := Option.map_eq_some_iff.mp e
      subst e2
      obtain ⟨p, vs, rfl, hq, z, l⟩ := sqOf_at R h e1
      refine ⟨_, vs.length, rfl, ?_, ?_⟩
      · rcases hq with hq | hq
        · exact .inl ⟨vs, hq, rfl⟩
        · exact .inr ⟨vs, hq, rfl⟩
      · have := l.length
        rw [this] at k
        exact k.same R (.int _)
  · cases e
def intOne : OpN := fun _ ds => match ds with
  | [.int i] => some (.int i)
  | [.bl b] => some (.int (if b then 1 else 0))
  | _ => none
theorem intOne_ok : ServesN X.K (fun xs H Q => (∃ i, xs = [.int i] ∧ Q (.int i) H) ∨ ∃ k, xs = [.bl k] ∧ Q (.int (if k then 1 else 0)) H) intOne := by
  intro rs ι S H ds vs d Q R a1 e k
  unfold intOne at e
  split at e
  · cases e
    cases a1 with
    | cons h t => cases h; cases t; exact .inl ⟨_, rfl, k.same R (.int _)⟩
  · cases e
    cases a1 with
    | cons h t => cases h; cases t; exact .inr ⟨_, rfl, k.same R (.int _)⟩
  · cases e
def strOne : OpN := fun _ ds => match ds with
  | [.int i] => if i.natAbs.log2 < 1920 then some (.str (toString i)) else none
  | _ => none
theorem strOne_ok : ServesN X.K (fun xs H Q => ∃ i, xs = [.int i] ∧ i.natAbs.log2 < 1920 ∧ Q (.str (toString i)) H) strOne := by
  intro rs ι S H ds vs d Q R a1 e k
  unfold strOne at e
  split at e
  · split at e
    · rename_i hz
      cases e
      cases a1 with
      | cons h t => cases h; cases t; exact ⟨_, rfl, hz, k.same R (.str _)⟩
    · cases e
  · cases e
def minO : OpN := fun _ ds => match ds with
  | [.int i, .int j] => some (.int (if j < i then j else i))
  | _ => none
theorem minO_ok : ServesN X.K (fun xs H Q => ∃ i j, xs = [.int i, .int j] ∧ Q (.int (if j < i then j else i)) H) minO := by
  intro rs ι S H ds vs d Q R a1 e k
  unfold minO at e
  split at e
  · cases e
    cases a1 with
    | cons h t => cases h; cases t with
      | cons h2 t2 => cases h2; cases t2; exact ⟨_, _, rfl, k.same R (.int _)⟩
  · cases e
def maxO : OpN := fun _ ds => match ds with
  | [.int i, .int j] => some (.int (if j > i then j else i))
  | _ => none
theorem maxO_ok : ServesN X.K (fun xs H Q => ∃ i j, xs = [.int i, .int j] ∧ Q (.int (if j > i then j else i)) H) maxO := by
  intro rs ι S H ds vs d Q R a1 e k
  unfold maxO at e
  split at e
  · cases e
    cases a1 with
    | cons h t => cases h; cases t with
      | cons h2 t2 => cases h2; cases t2; exact ⟨_, _, rfl, k.same R (.int _)⟩
  · cases e
def intsD : List D → Option (List Int)
  | [] => some []
  | .int i :: r => (intsD r).map (i :: ·)
  | _ :: _ => none
theorem intsD_at {K : KR} {ι : Nat → Addr} {N : Nat} {H : Hp} : ∀ {ds : List D} {vs : List V} {ns : List Int}, AtL K ι N H ds vs → intsD ds = some ns → vs = ns.map V.int
  | _, _, _, .nil, e => by simp only [intsD] at e; cases e; rfl
  | _, _, _, .cons (d := .int i) h t, e => by
    simp only [intsD] at e
    obtain ⟨r, e1, e2⟩ := Option.map_eq_some_iff.mp e
    subst e2
    cases h
    rw [intsD_at t e1]
    rfl
  | _, _, _, .cons (d := .non) _ _, e => by simp only [intsD] at e; cases e
  | _, _, _, .cons (d := .bl _) _ _, e => by simp only [intsD] at e; cases e
  | _, _, _, .cons (d := .str _) _ _, e => by simp only [intsD] at e; cases e
  | _, _, _, .cons (d := .tup _) _ _, e => by simp only [intsD] at e; cases e
  | _, _, _, .cons (d := .lst _) _ _, e => by simp only [intsD] at e; cases e
  | _, _, _, .cons (d := .scr _) _ _, e => by simp only [intsD] at e; cases e
  | _, _, _, .cons (d := .ref _) _ _, e => by simp only [intsD] at e; cases e
def sumO : OpN := fun S ds => match ds with
  | [d] => match lsOf S d with
    | some xs => (intsD xs).map fun ns => .int ns.sum
    | none => none
  | _ => none
theorem sumO_ok : ServesN X.K (rSum X.K) sumO := by
  intro rs ι S H ds vs d Q R a1 e k
  unfold sumO at e
  split at e
  · split at e
    · rename_i xs e1
      obtain ⟨ns, e2, e3⟩ := Option.map_eq_some_iff.mp e
      subst e3
      cases a1 with
      | cons h t =>
        cases t
        obtain ⟨p, ws, rfl, hq, z, l⟩ := lsOf_at R h e1
        rw [intsD_at l e2] at hq
        exact ⟨p, ns, rfl, hq, k.same R (.int _)⟩
    · cases e
  · cases e
def listO : OpN := fun S ds => match ds with
  | [d] => (sqOf S d).map .lst
  | _ => none
theorem listO_ok : ServesN X.K (fun xs H Q => ∃ p ys, xs = [.ref p] ∧ (SqL X.K H p ys ∨ SqT X.K H p ys) ∧ ∀ l, H l = none → Q (.ref l) (upd H l (.lst ys))) listO := by
  intro rs ι S H ds vs d Q R a1 e k
  unfold listO at e
  split at e
  · obtain ⟨xs, e1, e2⟩ := Option.map_eq_some_iff.mp e
    subst e2
    cases a1 with
    | cons h t =>
      cases t
      obtain ⟨p, ws, rfl, hq, z, l⟩ := sqOf_at R h e1
      exact ⟨p, ws, rfl, hq, fun q hp => k.lst R hp z l⟩
  · cases e
def tupleO : OpN := fun S ds => match ds with
  | [d] => (sqOf S d).map .tup
  | _ => none
theorem tupleO_ok : ServesN X.K (fun xs H Q => ∃ p ys, xs = [.ref p] ∧ ((SqL X.K H p ys ∧ ∀ l, H l = none → Q (.ref l) (upd H l (.tup ys))) ∨ (SqT X.K H p ys ∧ Q (.ref p) H))) tupleO := by
  intro rs ι S H ds vs d Q R a1 e k
  unfold tupleO at e
  split at e
  · obtain ⟨xs, e1, e2⟩ := Option.map_eq_some_iff.mp e
    subst e2
    cases a1 with
    | cons h t =>
      cases t
      obtain ⟨p, ws, rfl, hq, z, l⟩ := sqOf_at R h e1
      rcases hq with hq | hq
      · exact ⟨p, ws, rfl, .inl ⟨hq, fun q hp => k.tup R hp z l⟩⟩
      · exact ⟨p, ws, rfl, .inr ⟨hq, k.same R (.tup hq z l)⟩⟩
  · cases e
/-- repr of data -/
def rRepr (K : PySem.W.Frag) (A : Around) : List V → Hp → VK → Prop := fun vs H Q => ∃ v p, vs = [v] ∧ Dp K H v p ∧ PyData.showable p = true ∧ PyData.hasDict p = false ∧ PyData.depth p ≤ 64 ∧ (PyData.shown p).length ≤ sizeLine ∧ Q (.str (PyData.shown p)) H
theorem call_repr {k : Nat} (hr : Room k X.A) (hgd : X.A.guards = some []) : CallR X (.builtin "repr") (rRepr X.K X.A) := by
  intro pins s σ H vs us Q I r h
  obtain ⟨v, p, rfl, hd, h1, h2, h3, h4, q⟩ := h
  obtain ⟨u, rfl, ru⟩ := vals1 r
  obtain ⟨as, rd⟩ := Dp.reads I p v u hd ru
  have hu := hr.un
  have kept : ∀ h' uu tk, (∀ b o, s.heap.get? b = some o → h'.get? b = some o) → EP X pins σ Q (.str (PyData.shown p) uu) { s with heap := h', toks := tk } :=
    fun h' uu tk hk => ⟨.str _, H, I.kept hk, ⟨_, rfl⟩, q⟩
  cases p with
  | list xs => exact match u, rd with
    | .ref _, rd => repr_of_reads' rd h1 (fun z => by rw [h2] at z; cases z) hgd (by omega) (fun _ _ z => z) kept h4
  | tuple xs => exact match u, rd with
    | .ref _, rd => repr_of_reads' rd h1 (fun z => by rw [h2] at z; cases z) hgd (by omega) (fun _ _ z => z) kept h4
  | dict kvs => simp [PyData.hasDict] at h2
  | none =>
    cases rd
    exact PySem.P.repr_of_none ⟨.str _, H, I.tok _, ⟨_, rfl⟩, q⟩
  | bool b =>
    cases rd
    exact PySem.P.repr_of_bool ⟨.str _, H, I.tok _, ⟨_, rfl⟩, q⟩
  | int i =>
    cases rd
    exact PySem.P.repr_of_int (by simpa [PyData.showable] using h1) ⟨.str _, H, I.tok _, ⟨_, rfl⟩, q⟩
  | str x =>
    cases rd
    exact PySem.P.repr_of_str ⟨.str _, H, I.tok _, ⟨_, rfl⟩, q⟩ h4
def reprO : OpN := fun S ds => match ds with
  | [d] => match pyD (seen S d) with
    | some p => if PyData.showable p = true ∧ PyData.hasDict p = false ∧ PyData.depth p ≤ 64 ∧ (PyData.shown p).length ≤ sizeLine then some (.str (PyData.shown p)) else none
    | none => none
  | _ => none
theorem reprO_ok : ServesN X.K (rRepr X.K X.A) reprO := by
  intro rs ι S H ds vs d Q R a1 e k
  unfold reprO at e
  split at e
  · split at e
    · rename_i p e1
      split at e
      · rename_i hc
        cases e
        cases a1 with
        | cons h t =>
          cases t
          exact ⟨_, p, rfl, seen_at R h e1, hc.1, hc.2.1, hc.2.2.1, hc.2.2.2, k.same R (.str _)⟩
      · cases e
    · cases e
  · cases e

/-! ### the calls by their names -/
variable {p : Pos}
theorem de_len (hg : Gl X "len") (hm : X.mg "len" = none) (ha : DA X (e :: es) fs) (he : starEach (e :: es) X.env = (false, eval e X.env) :: starEach es X.env := by rfl) (hpl : (backTo pos (starEach es X.env)).any (·.1) = false := by rfl) :
    DE X (.Call (.Name "len" p) (e :: es) [] pos) (cOp lenO fs) := de_callB call_len lenO_ok hg hm PySem.boot_len ha (by decide) (by decide) he hpl
theorem de_intOf (hg : Gl X "int") (hm : X.mg "int" = none) (ha : DA X (e :: es) fs) (he : starEach (e :: es) X.env = (false, eval e X.env) :: starEach es X.env := by rfl) (hpl : (backTo pos (starEach es X.env)).any (·.1) = false := by rfl) :
    DE X (.Call (.Name "int" p) (e :: es) [] pos) (cOp intOne fs) := de_callTy call_int1 intOne_ok hg hm (by decide +kernel) ha (by decide) (by decide) he hpl
theorem de_strOf (hg : Gl X "str") (hm : X.mg "str" = none) (ha : DA X (e :: es) fs) (he : starEach (e :: es) X.env = (false, eval e X.env) :: starEach es X.env := by rfl) (hpl : (backTo pos (starEach es X.env)).any (·.1) = false := by rfl) :
    DE X (.Call (.Name "str" p) (e :: es) [] pos) (cOp strOne fs) := de_callTy call_str_int strOne_ok hg hm (by decide +kernel) ha (by decide) (by decide) he hpl
theorem de_min (hc : X.calm = true) (hg : Gl X "min") (hm : X.mg "min" = none) (ha : DA X (e :: es) fs) (he : starEach (e :: es) X.env = (false, eval e X.env) :: starEach es X.env := by rfl) (hpl : (backTo pos (starEach es X.env)).any (·.1) = false := by rfl) :
    DE X (.Call (.Name "min" p) (e :: es) [] pos) (cOp minO fs) := de_callB (call_min2 hc) minO_ok hg hm (by decide +kernel) ha (by decide) (by decide) he hpl
theorem de_max (hc : X.calm = true) (hg : Gl X "max") (hm : X.mg "max" = none) (ha : DA X (e :: es) fs) (he : starEach (e :: es) X.env = (false, eval e X.env) :: starEach es X.env := by rfl) (hpl : (backTo pos (starEach es X.env)).any (·.1) = false := by rfl) :
    DE X (.Call (.Name "max" p) (e :: es) [] pos) (cOp maxO fs) := de_callB (call_max2 hc) maxO_ok hg hm (by decide +kernel) ha (by decide) (by decide) he hpl
theorem de_sum (hc : X.calm = true) (hg : Gl X "sum") (hm : X.mg "sum" = none) (ha : DA X (e :: es) fs) (he : starEach (e :: es) X.env = (false, eval e X.env) :: starEach es X.env := by rfl) (hpl : (backTo pos (starEach es X.env)).any (·.1) = false := by rfl) :
    DE X (.Call (.Name "sum" p) (e :: es) [] pos) (cOp sumO fs) := de_callB (cr_sum hc) sumO_ok hg hm (by decide +kernel) ha (by decide) (by decide) he hpl
theorem de_listOf (hg : Gl X "list") (hm : X.mg "list" = none) (ha : DA X (e :: es) fs) (he : starEach (e :: es) X.env = (false, eval e X.env) :: starEach es X.env := by rfl) (hpl : (backTo pos (starEach es X.env)).any (·.1) = false := by rfl) :
    DE X (.Call (.Name "list" p) (e :: es) [] pos) (cOp listO fs) := de_callTy call_list_of listO_ok hg hm (by decide +kernel) ha (by decide) (by decide) he hpl
theorem de_tupleOf (hg : Gl X "tuple") (hm : X.mg "tuple" = none) (ha : DA X (e :: es) fs) (he : starEach (e :: es) X.env = (false, eval e X.env) :: starEach es X.env := by rfl) (hpl : (backTo pos (starEach es X.env)).any (·.1) = false := by rfl) :
    DE X (.Call (.Name "tuple" p) (e :: es) [] pos) (cOp tupleO fs) := de_callTy call_tuple_of tupleO_ok hg hm (by decide +kernel) ha (by decide) (by decide) he hpl
theorem de_repr {k : Nat} (hr : Room k X.A) (hgd : X.A.guards = some []) (hg : Gl X "repr") (hm : X.mg "repr" = none) (ha : DA X (e :: es) fs) (he : starEach (e :: es) X.env = (false, eval e X.env) :: starEach es X.env := by rfl) (hpl : (backTo pos (starEach es X.env)).any (·.1) = false := by rfl) :
    DE X (.Call (.Name "repr" p) (e :: es) [] pos) (cOp reprO fs) := de_callB (call_repr hr hgd) reprO_ok hg hm (by decide +kernel) ha (by decide) (by decide) he hpl
end
end FS
set_option Elab.async false
set_option linter.all false
set_option maxRecDepth 100000
set_option maxHeartbeats 4000000
namespace FS
open PySem PySem.Spec PyProof.Rows L2

/-! ### the same data -/
mutual
def same : D → D → Bool
  | .non, .non => true
  | .bl a, .bl b => a == b
  | .int a, .int b => a == b
  | .str a, .str b => a == b
  | .tup xs, .tup ys => sameL xs ys
  | .lst xs, .lst ys => sameL xs ys
  | .scr xs, .scr ys => sameL xs ys
  | .ref a, .ref b => a == b
  | _, _ => false
def sameL : List D → List D → Bool
  | [], [] => true
  | x :: xs, y :: ys => same x y && sameL xs ys
  | _, _ => false
end
mutual
theorem same_eq : ∀ {a b : D}, same a b = true → a = b
  | a, b, h => by
    cases a <;> cases b <;> simp only [same, Bool.false_eq_true, beq_iff_eq] at h <;> first
      | rfl
      | (rw [h])
      | (rw [sameL_eq h])
theorem sameL_eq : ∀ {a b : List D}, sameL a b = true → a = b
  | [], [], _ => rfl
  | x :: xs, y :: ys, h => by
    simp only [sameL, Bool.and_eq_true] at h
    rw [same_eq h.1, sameL_eq h.2]
  | [], _ :: _, h => by simp [sameL] at h
  | _ :: _, [], h => by simp [sameL] at h
end
mutual
theorem same_refl : ∀ a : D, same a a = true
  | .non => rfl
  | .bl a => by simp [same]
  | .int a => by simp [same]
  | .str a => by simp [same]
  | .tup xs => by simp only [same]; exact sameL_refl xs
  | .lst xs => by simp only [same]; exact sameL_refl xs
  | .scr xs => by simp only [same]; exact sameL_refl xs
  | .ref a => by simp [same]
theorem sameL_refl : ∀ a : List D, sameL a a = true
  | [] => rfl
  | x :: xs => by simp only [sameL, same_refl x, sameL_refl xs]; rfl
end

/-! ### what is walked -/
/-- the items; the list in the store that they come from, if it may change -/
abbrev Src := Rho → Sto → Option (List D × Option Nat × Sto)
/-- the source stands as it was -/
def still (xs : List D) (w : Option Nat) (S : Sto) : Bool := match w with
  | none => true
  | some n => match S[n]? with
    | some (.lst ys) => sameL ys xs
    | _ => false
structure Yl (k : PySem.W.Frag) (rs : Addr → Prop) (J : It) (ι : Nat → Addr) (S : Sto) (H : Hp) (xs : List D) (w : Option Nat) : Prop where
  sz : xs.length ≤ sizeLine
  go : ∀ (rs' : Addr → Prop) ι2 S2 H2, (∀ a o, H a = some o → rs' a → rs a) → Ext ι S.length H ι2 S2.length H2 → Rel ⟨k, rs'⟩ ι2 S2 H2 → still xs w S2 = true → ∀ i, i < xs.length → J.go i H2
  stop : ∀ (rs' : Addr → Prop) ι2 S2 H2, (∀ a o, H a = some o → rs' a → rs a) → Ext ι S.length H ι2 S2.length H2 → Rel ⟨k, rs'⟩ ι2 S2 H2 → still xs w S2 = true → J.stop xs.length H2
  yld : ∀ (rs' : Addr → Prop) ι2 S2 H2, (∀ a o, H a = some o → rs' a → rs a) → Ext ι S.length H ι2 S2.length H2 → Rel ⟨k, rs'⟩ ι2 S2 H2 → still xs w S2 = true → ∀ i d, xs[i]? = some d → ∀ x H3, J.yld i H2 x H3 →
    Ext ι2 S2.length H2 ι2 S2.length H3 ∧ Rel ⟨k, rs'⟩ ι2 S2 H3 ∧ At ⟨k, rs'⟩ ι2 S2.length H3 d x
def tI (K : PySem.W.Frag) (src : Src) : TI := fun σ H Rr => ∃ (rs : Addr → Prop) (ι : Nat → Addr) (ρ : Rho) (S : Sto) (xs : List D) (w : Option Nat) (S' : Sto), Rel ⟨K, rs⟩ ι S H ∧ EnvAt ⟨K, rs⟩ ι S.length H ρ σ ∧ src ρ S = some (xs, w, S') ∧
  ∀ ι' H' J, Ext ι S.length H ι' S'.length H' → Rel ⟨K, rs⟩ ι' S' H' → still xs w S' = true → Yl K rs J ι' S' H' xs w → Rr J H'
abbrev DI (X : Cx) (tg iter : Expr) (src : Src) : Prop := PI X tg iter (tI X.K src)
theorem PI.imp {X : Cx} {tg e : Expr} {t t' : TI} (h : PI X tg e t) (i : ∀ σ H Q, t' σ H Q → t σ H Q) : PI X tg e t' := ⟨fun pins s σ H Q I q => h.run pins s σ H Q I (i _ _ _ q)⟩
section
variable {X : Cx} {tg e : Expr} {f g : G}
/-- a list or a tuple, by its value -/
def iSeq (K : PySem.W.Frag) (tl : TE) : TI := fun σ H R => tl σ H fun x H1 => ∃ a, x = .ref a ∧ (((∃ xs, SqL K H1 a xs) ∧ R (Itl K a) H1) ∨ ((∃ xs, SqT K H1 a xs) ∧ R (Itt K a) H1))
theorem pi_seq {l : Expr} {tl : TE} (hl : PE X l tl) : PI X tg l (iSeq X.K tl) := by
  constructor
  intro pins s σ H R I h
  apply thn (hl.run pins s σ H _ I h)
  rintro v s1 ⟨x, H1, I1, r1, a, ex, q1⟩
  subst ex
  cases r1
  have fp : ∀ (it : Addr), it = s1.heap.objs.size → ∀ b ∈ [it], FpOk X pins H1 b := by
    intro it hi b hb
    rw [List.mem_singleton] at hb
    subst hb
    subst hi
    exact I1.fpOk (Nat.le_refl _) (I1.hok.fresh (Nat.le_refl _))
  rcases q1 with ⟨⟨xs, hq⟩, q⟩ | ⟨⟨xs, hq⟩, q⟩
  · obtain ⟨its, rv, p, hz⟩ := I1.list hq
    apply wpAny_pyIter_list p.isList
    exact ⟨s1.heap.objs.size, [s1.heap.objs.size], _, Itl X.K a, H1, rfl, I1.kept (t' := s1.toks) (fun b o e => Heap.get?_push_of_some _ e), turn_list a _, ⟨_, Heap.get?_push_size _ rfl, rfl, rfl⟩, fp _ rfl, q⟩
  · obtain ⟨its, rv, p, hz⟩ := I1.tuple hq
    apply wpAny_pyIter_tuple (show s1.heap.IsTuple a its.toArray from p)
    exact ⟨s1.heap.objs.size, [s1.heap.objs.size], _, Itt X.K a, H1, rfl, I1.kept (t' := s1.toks) (fun b o e => Heap.get?_push_of_some _ e), turn_tuple a _, ⟨_, Heap.get?_push_size _ rfl, rfl, rfl⟩, fp _ rfl, q⟩
def sSeq (f : G) : Src := fun ρ S => match f ρ S with
  | some (.tup xs, S1) => some (xs, none, S1)
  | some (.lst xs, S1) => some (xs, none, S1)
  | some (.ref n, S1) => match S1[n]? with
    | some (.lst xs) => some (xs, some n, S1)
    | _ => none
  | _ => none
variable {k : PySem.W.Frag} {rs : Addr → Prop} {ι : Nat → Addr} {S : Sto} {H : Hp} {a : Addr} {xs : List D} {vs : List V}
theorem yl_tup (R : Rel ⟨k, rs⟩ ι S H) (h : SqT k H a vs) (z : vs.length ≤ sizeLine) (l : AtL ⟨k, rs⟩ ι S.length H xs vs) : Yl k rs (Itt k a) ι S H xs none := by
  have hl := l.length
  refine ⟨by omega, fun rs' ι2 S2 H2 _ E R2 _ i hi => ?_, fun rs' ι2 S2 H2 _ E R2 _ => ⟨vs, sqT_mono (K := ⟨k, rs⟩) R E h, by omega⟩, fun rs' ι2 S2 H2 hw E R2 _ i d hd x H3 y => ?_⟩
  · exact ⟨vs, vs[i], sqT_mono (K := ⟨k, rs⟩) R E h, List.getElem?_eq_getElem (by omega)⟩
  · obtain ⟨e1, e2⟩ := y
    subst e1
    obtain ⟨v, q, w⟩ := ((l.wide hw).mono R E).get hd
    have := e2 vs (sqT_mono (K := ⟨k, rs⟩) R E h)
    rw [q] at this
    cases this
    exact ⟨Ext.refl, R2, w⟩
theorem yl_lst (R : Rel ⟨k, rs⟩ ι S H) (h : RdL ⟨k, rs⟩ ι S.length H a vs) (z : vs.length ≤ sizeLine) (l : AtL ⟨k, rs⟩ ι S.length H xs vs) : Yl k rs (Itl k a) ι S H xs none := by
  have hl := l.length
  refine ⟨by omega, fun rs' ι2 S2 H2 _ E R2 _ i hi => ?_, fun rs' ι2 S2 H2 _ E R2 _ => ⟨vs, (rdL_mono E h).sq, by omega⟩, fun rs' ι2 S2 H2 hw E R2 _ i d hd x H3 y => ?_⟩
  · exact ⟨vs, vs[i], (rdL_mono E h).sq, List.getElem?_eq_getElem (by omega)⟩
  · obtain ⟨e1, e2⟩ := y
    subst e1
    obtain ⟨v, q, w⟩ := ((l.wide hw).mono R E).get hd
    have := e2 vs (rdL_mono E h).sq
    rw [q] at this
    cases this
    exact ⟨Ext.refl, R2, w⟩
theorem yl_ref {n : Nat} (hn : n < S.length) (z : xs.length ≤ sizeLine) : Yl k rs (Itl k (ι n)) ι S H xs (some n) := by
  have key : ∀ {rs' : Addr → Prop} {ι2 S2 H2}, Ext ι S.length H ι2 S2.length H2 → Rel ⟨k, rs'⟩ ι2 S2 H2 → still xs (some n) S2 = true → ∃ vs, SqL k H2 (ι n) vs ∧ AtL ⟨k, rs'⟩ ι2 S2.length H2 xs vs := by
    intro rs' ι2 S2 H2 E R2 st
    simp only [still] at st
    split at st
    · rename_i ys e
      have := sameL_eq st
      subst this
      obtain ⟨vs, q, l, _⟩ := R2.obj n _ e
      rw [E.eqi n hn] at q
      exact ⟨vs, .of q, l⟩
    · cases st
  refine ⟨z, fun rs' ι2 S2 H2 _ E R2 st i hi => ?_, fun rs' ι2 S2 H2 _ E R2 st => ?_, fun rs' ι2 S2 H2 _ E R2 st i d hd x H3 y => ?_⟩
  · obtain ⟨vs, h, l⟩ := key E R2 st
    have hl := l.length
    exact ⟨vs, vs[i], h, List.getElem?_eq_getElem (by omega)⟩
  · obtain ⟨vs, h, l⟩ := key E R2 st
    have hl := l.length
    exact ⟨vs, h, by omega⟩
  · obtain ⟨vs, h, l⟩ := key E R2 st
    obtain ⟨e1, e2⟩ := y
    subst e1
    obtain ⟨v, q, w⟩ := l.get hd
    have := e2 vs h
    rw [q] at this
    cases this
    exact ⟨Ext.refl, R2, w⟩
theorem di_seq (he : DE X e f) : DI X tg e (sSeq f) := by
  refine PI.imp (pi_seq he) ?_
  rintro σ H Q ⟨rs, ι, ρ, S, xs, w, S', R, En, hf, kk⟩
  unfold sSeq at hf
  split at hf
  · rename_i ys S1 e1
    cases hf
    refine tE.go R En e1 fun ι1 H1 v E1 R1 En1 a1 => ?_
    cases a1 with
    | tup h z l => exact ⟨_, rfl, .inr ⟨⟨_, h⟩, kk _ _ _ E1 R1 rfl (yl_tup R1 h z l)⟩⟩
  · rename_i ys S1 e1
    cases hf
    refine tE.go R En e1 fun ι1 H1 v E1 R1 En1 a1 => ?_
    cases a1 with
    | lst h z l => exact ⟨_, rfl, .inl ⟨⟨_, h.sq⟩, kk _ _ _ E1 R1 rfl (yl_lst R1 h z l)⟩⟩
  · rename_i n S1 e1
    split at hf
    · rename_i ys e2
      cases hf
      refine tE.go R En e1 fun ι1 H1 v E1 R1 En1 a1 => ?_
      cases a1 with
      | ref hn =>
        obtain ⟨vs, q, l, z⟩ := R1.obj n _ e2
        refine ⟨_, rfl, .inl ⟨⟨vs, .of q⟩, kk _ _ _ E1 R1 ?_ (yl_ref hn (by rw [l.length]; exact z))⟩⟩
        simp only [still, e2]
        exact sameL_refl _
    · cases hf
  · cases hf
/-- whole numbers in a row -/
def intsFrom (lo : Int) : Nat → List D
  | 0 => []
  | n + 1 => .int lo :: intsFrom (lo + 1) n
theorem intsFrom_length : ∀ (n : Nat) (lo : Int), (intsFrom lo n).length = n
  | 0, _ => rfl
  | n + 1, lo => by simp only [intsFrom, List.length_cons, intsFrom_length n]
theorem intsFrom_get : ∀ (n : Nat) (lo : Int) (i : Nat) (d : D), (intsFrom lo n)[i]? = some d → d = .int (lo + i)
  | 0, _, _, _, h => by simp [intsFrom] at h
  | n + 1, lo, 0, d, h => by simp [intsFrom] at h; rw [← h]; simp
  | n + 1, lo, i + 1, d, h => by
    have := intsFrom_get n (lo + 1) i d (by simpa [intsFrom] using h)
    rw [this]
    congr 1
    omega
theorem yl_rng {lo : Int} {n : Nat} (z : n ≤ sizeLine) : Yl k rs (Itr lo n) ι S H (intsFrom lo n) none := by
  have hl := intsFrom_length n lo
  refine ⟨by rw [hl]; exact z, fun rs' ι2 S2 H2 _ E R2 _ i hi => by rw [hl] at hi; exact hi, fun rs' ι2 S2 H2 _ E R2 _ => by rw [hl]; exact Nat.le_refl _, fun rs' ι2 S2 H2 hw E R2 _ i d hd x H3 y => ?_⟩
  obtain ⟨e1, e2⟩ := y
  subst e1 e2
  rw [intsFrom_get _ _ _ _ hd]
  exact ⟨Ext.refl, R2, .int _⟩
def sRng1 (r : Gs) : Src := fun ρ S => match r ρ S with
  | some ([.int j], S1) => if j ≤ 1000000 ∧ -1000000 ≤ j then some (intsFrom 0 j.toNat, none, S1) else none
  | _ => none
def sRng2 (r : Gs) : Src := fun ρ S => match r ρ S with
  | some ([.int i, .int j], S1) => if i ≤ 1000000 ∧ -1000000 ≤ i ∧ j ≤ 1000000 ∧ -1000000 ≤ j then some (intsFrom i (j - i).toNat, none, S1) else none
  | _ => none
theorem di_rng1 {a : Expr} {fs : Gs} {p pos : Pos} (hg : Gl X "range") (hm : X.mg "range" = none) (ha : DA X [a] fs) (hs : starEach [a] X.env = [(false, eval a X.env)] := by rfl) : DI X tg (.Call (.Name "range" p) [a] [] pos) (sRng1 fs) := by
  refine PI.imp (pi_range1 hg hm ha hs) ?_
  rintro σ H Q ⟨rs, ι, ρ, S, xs, w, S', R, En, hf, kk⟩
  unfold sRng1 at hf
  split at hf
  · rename_i j S1 e1
    split at hf
    · rename_i hj
      cases hf
      refine tL.go R En e1 fun ι1 H1 vs E1 R1 En1 a1 => ?_
      cases a1 with
      | cons h t =>
        cases h; cases t
        refine ⟨j, rfl, by omega, by omega, kk _ _ _ E1 R1 rfl (yl_rng (by rw [sizeLine_eq]; omega))⟩
    · cases hf
  · cases hf
theorem di_rng2 {a b : Expr} {fs : Gs} {p pos : Pos} (hg : Gl X "range") (hm : X.mg "range" = none) (ha : DA X [a, b] fs) (hs : starEach [a, b] X.env = [(false, eval a X.env), (false, eval b X.env)] := by rfl) (hs2 : starEach [b] X.env = [(false, eval b X.env)] := by rfl) : DI X tg (.Call (.Name "range" p) [a, b] [] pos) (sRng2 fs) := by
  refine PI.imp (pi_range2 hg hm ha hs hs2) ?_
  rintro σ H Q ⟨rs, ι, ρ, S, xs, w, S', R, En, hf, kk⟩
  unfold sRng2 at hf
  split at hf
  · rename_i i j S1 e1
    split at hf
    · rename_i hj
      cases hf
      refine tL.go R En e1 fun ι1 H1 vs E1 R1 En1 a1 => ?_
      cases a1 with
      | cons h t =>
        cases h
        cases t with
        | cons h t =>
          cases h; cases t
          refine ⟨i, j, rfl, by omega, kk _ _ _ E1 R1 rfl (yl_rng (by rw [sizeLine_eq]; omega))⟩
    · cases hf
  · cases hf
end

/-! ### targets -/
abbrev Tg := D → Rho → Option Rho
def tG (K : PySem.W.Frag) (t : Tg) (ix : List Nat) : TG := fun v σ H Q => ∃ (rs : Addr → Prop) (ι : Nat → Addr) (ρ : Rho) (S : Sto) (d : D) (ρ' : Rho), Rel ⟨K, rs⟩ ι S H ∧ EnvAt ⟨K, rs⟩ ι S.length H ρ σ ∧ At ⟨K, rs⟩ ι S.length H d v ∧ t d ρ = some ρ' ∧
  ∀ σ', EnvAt ⟨K, rs⟩ ι S.length H ρ' σ' → σ'.length = σ.length → (∀ j, j ∉ ix → σ'[j]? = σ[j]?) → Q σ' H
def tGs (K : PySem.W.Frag) (ts : List Tg) (ix : List Nat) : TGs := fun vs σ H Q => ∃ (rs : Addr → Prop) (ι : Nat → Addr) (ρ : Rho) (S : Sto) (ds : List D) (ρ' : Rho), Rel ⟨K, rs⟩ ι S H ∧ EnvAt ⟨K, rs⟩ ι S.length H ρ σ ∧ AtL ⟨K, rs⟩ ι S.length H ds vs ∧ setAll ts ds ρ = some ρ' ∧
  ∀ σ', EnvAt ⟨K, rs⟩ ι S.length H ρ' σ' → σ'.length = σ.length → (∀ j, j ∉ ix → σ'[j]? = σ[j]?) → Q σ' H
where
  setAll : List Tg → List D → Rho → Option Rho
    | [], [], ρ => some ρ
    | t :: ts, d :: ds, ρ => match t d ρ with
      | some ρ1 => setAll ts ds ρ1
      | none => none
    | _, _, _ => none
abbrev setAll := tGs.setAll
abbrev DG (X : Cx) (tg : Expr) (t : Tg) (ix : List Nat) : Prop := PG X tg (tG X.K t ix)
abbrev DGs (X : Cx) (tgs : List Expr) (ts : List Tg) (ix : List Nat) : Prop := PGs X tgs (tGs X.K ts ix)
theorem PG.imp {X : Cx} {e : Expr} {t t' : TG} (h : PG X e t) (i : ∀ v σ H Q, t' v σ H Q → t v σ H Q) : PG X e t' := ⟨fun pins s σ H v u Q I r q => h.run pins s σ H v u Q I r (i _ _ _ _ q)⟩
theorem PGs.imp {X : Cx} {e : List Expr} {t t' : TGs} (h : PGs X e t) (i : ∀ v σ H Q, t' v σ H Q → t v σ H Q) : PGs X e t' := ⟨fun pins s σ H v u Q I r q => h.run pins s σ H v u Q I r (i _ _ _ _ q)⟩
def gNm (i : Nat) : Tg := fun d ρ => some (ρ.set i (some d))
def gTp (ts : List Tg) : Tg := fun d ρ => match d with
  | .tup xs => setAll ts xs ρ
  | _ => none
section
variable {X : Cx} {pos : Pos} {e : Expr} {es : List Expr}
theorem dg_nm (i : Nat) {x : Str} (hN : X.N.Nodup) (hi : X.N[i]? = some x) (hx : Loc X.env.scope x) (hf : X.fn x = true ∨ X.env.scope.names.lookup x = some .local := by first | exact .inl rfl | exact .inr rfl | assumption) : DG X (.Name x pos) (gNm i) [i] := by
  refine PG.imp (pg_name hN hi hx hf) ?_
  rintro v σ H Q ⟨rs, ι, ρ, S, d, ρ', R, En, a, ht, k⟩
  cases ht
  refine k _ (En.set a) (by simp) fun j hj => ?_
  rw [List.mem_singleton] at hj
  exact List.getElem?_set_ne (Ne.symm hj)
theorem dgs_nil : DGs X [] [] [] := by
  refine PGs.imp pgs_nil ?_
  rintro v σ H Q ⟨rs, ι, ρ, S, d, ρ', R, En, a, ht, k⟩
  cases a with
  | nil => cases ht; exact ⟨rfl, k _ En rfl fun _ _ => rfl⟩
  | cons _ _ => cases ht
theorem dgs_cons {t : Tg} {ts : List Tg} {ix iy : List Nat} (h1 : DG X e t ix) (h2 : DGs X es ts iy) (hs : (assignEach (e :: es) X.env).map (·.2) = assign e X.env :: (assignEach es X.env).map (·.2) := by rfl) : DGs X (e :: es) (t :: ts) (ix ++ iy) := by
  refine PGs.imp (pgs_cons h1 h2 hs) ?_
  rintro v σ H Q ⟨rs, ι, ρ, S, d, ρ', R, En, a, ht, k⟩
  cases a with
  | nil => cases ht
  | cons h tl =>
    simp only [tGs.setAll] at ht
    split at ht
    · rename_i ρ1 e1
      refine ⟨_, _, rfl, rs, ι, ρ, S, _, ρ1, R, En, h, e1, fun σ1 En1 l1 q1 => ?_⟩
      refine ⟨rs, ι, ρ1, S, _, ρ', R, En1, tl, ht, fun σ2 En2 l2 q2 => k σ2 En2 (l2.trans l1) fun j hj => ?_⟩
      rw [List.mem_append] at hj
      exact (q2 j fun z => hj (.inr z)).trans (q1 j fun z => hj (.inl z))
    · cases ht
theorem dg_tp {kk n : Nat} {ts : List Tg} {ix : List Nat} (hc : X.calm = true) (h : DGs X es ts ix) (hl : ts.length = n := by rfl) (hn : (assignEach es X.env).length = n := by rfl) (hst : (assignEach es X.env).findIdx? (·.1) = none := by rfl) : DG X (.Tuple es kk pos) (gTp ts) ix := by
  refine PG.imp (pg_tup hc h hn hst) ?_
  rintro v σ H Q ⟨rs, ι, ρ, S, d, ρ', R, En, a, ht, k⟩
  unfold gTp at ht
  split at ht
  · cases a with
    | tup q z l =>
      have len : ∀ (ts : List Tg) (ds : List D) (ρ ρ' : Rho), setAll ts ds ρ = some ρ' → ds.length = ts.length := by
        intro ts
        induction ts with
        | nil => intro ds ρ ρ' h; cases ds with
          | nil => rfl
          | cons _ _ => cases h
        | cons t ts ih => intro ds ρ ρ' h; cases ds with
          | nil => cases h
          | cons d ds =>
            simp only [tGs.setAll] at h
            split at h
            · simp [ih _ _ _ h]
            · cases h
      refine ⟨_, _, rfl, q, ?_, rs, ι, ρ, S, _, ρ', R, En, l, ht, k⟩
      rw [← l.length, len _ _ _ _ ht, hl]
  · cases ht
end
end FS
set_option Elab.async false
set_option linter.all false
set_option maxRecDepth 100000
set_option maxHeartbeats 4000000
namespace FS
open PySem PySem.Spec PyProof.Rows L2

theorem EndsP.from {K : KR} {ι ι1 : Nat → Addr} {S S1 S' : Sto} {H H1 : Hp} {D' : Ends} {ρ' : Rho} : ∀ {fl : Flw}, EndsP K ι S H D' fl ρ' S' → Ext ι S.length H ι1 S1.length H1 → EndsP K ι1 S1 H1 D' fl ρ' S'
  | .nx, k, E => fun ι' σ' H' E' R' En' => k ι' σ' H' (E.trans E') R' En'
  | .bk, k, E => fun ι' σ' H' E' R' En' => k ι' σ' H' (E.trans E') R' En'
  | .ct, k, E => fun ι' σ' H' E' R' En' => k ι' σ' H' (E.trans E') R' En'
  | .rt _, k, E => Post.from k E

/-! ### for -/
def forB (c : Sto → Bool) (t : Tg) (b : B) : List D → Rho → Sto → Option (Flw × Rho × Sto)
  | [], ρ, S => some (.nx, ρ, S)
  | x :: xs, ρ, S => match t x ρ with
    | none => none
    | some ρ1 => match b ρ1 S with
      | some (.nx, ρ2, S2) => if c S2 = true then forB c t b xs ρ2 S2 else none
      | some (.ct, ρ2, S2) => if c S2 = true then forB c t b xs ρ2 S2 else none
      | some (.bk, ρ2, S2) => some (.nx, ρ2, S2)
      | some (.rt d, ρ2, S2) => some (.rt d, ρ2, S2)
      | none => none
def cFor (src : Src) (t : Tg) (b : B) : B := fun ρ S => match src ρ S with
  | some (xs, w, S1) => forB (still xs w) t b xs ρ S1
  | none => none
/-- between two turns: the items ys are left -/
def ForAt (k : PySem.W.Frag) (rs : Addr → Prop) (ι1 : Nat → Addr) (S1 : Sto) (H1 : Hp) (D' : Ends) (c : Sto → Bool) (t : Tg) (b : B) (fl : Flw) (ρ' : Rho) (S' : Sto) (ys : List D) (σ : L2.St) (H : Hp) : Prop :=
  ∃ ι2 ρ2 S2, Ext ι1 S1.length H1 ι2 S2.length H ∧ Rel ⟨k, rs⟩ ι2 S2 H ∧ EnvAt ⟨k, rs⟩ ι2 S2.length H ρ2 σ ∧ c S2 = true ∧ forB c t b ys ρ2 S2 = some (fl, ρ', S') ∧ EndsP ⟨k, rs⟩ ι2 S2 H D' fl ρ' S'
section
variable {X : Cx} {tg iter : Expr} {pos : Pos} {body : List Stmt} {src : Src} {t : Tg} {ix : List Nat} {b : B}
theorem ds_for (hp : PassesOwn (model X.prog X.w) X.A X.env X.xe) (hc : X.calm = true) (hi : DI X tg iter src) (hg : DG X tg t ix) (hb : DSs X body b)
    (hs : ∀ x, foldedSetIterable iter X.env x = pure x := by intro _; rfl) : DS X (.For tg iter body [] pos) (cFor src t b) := by
  refine PS.imp (ps_for hp hc hi hg hb hs) ?_
  rintro D' σ H ⟨rs, ι, ρ, S, fl, ρ', S', R, En, hf, kk⟩
  unfold cFor at hf
  split at hf
  case h_2 => cases hf
  rename_i xs w S1 e1
  refine ⟨rs, ι, ρ, S, xs, w, S1, R, En, e1, fun ι1 H1 J E1 R1 st1 y => ?_⟩
  refine ⟨fun i m σ2 H2 => m = xs.length - i ∧ i ≤ xs.length ∧ ForAt X.K rs ι1 S1 H1 D' (still xs w) t b fl ρ' S' (xs.drop i) σ2 H2, ⟨xs.length, by simp, Nat.zero_le _, ι1, ρ, S1, Ext.refl, R1, En.mono R E1, st1, hf, kk.from E1⟩, ?_⟩
  rintro i m σ2 H2 ⟨rfl, hi', ι2, ρ2, S2, E2, R2, En2, st2, hf2, k2⟩
  by_cases hlt : i < xs.length
  · refine .inr ⟨y.go rs ι2 S2 H2 (fun _ _ _ z => z) E2 R2 st2 i hlt, ForAt X.K rs ι1 S1 H1 D' (still xs w) t b fl ρ' S' (xs.drop (i + 1)), fun σ3 H3 h3 => ⟨xs.length - (i + 1), by omega, rfl, by omega, h3⟩, fun x H3 hy => ?_⟩
    have hd : xs[i]? = some xs[i] := List.getElem?_eq_getElem hlt
    obtain ⟨E3, R3, a3⟩ := y.yld rs ι2 S2 H2 (fun _ _ _ z => z) E2 R2 st2 i _ hd x H3 hy
    rw [List.drop_eq_getElem_cons hlt] at hf2
    simp only [forB] at hf2
    split at hf2
    · cases hf2
    · rename_i ρ3 e3
      refine ⟨rs, ι2, ρ2, S2, _, ρ3, R3, En2.mono R2 E3, a3, e3, fun σ4 En4 _ _ => ?_⟩
      cases e4 : b ρ3 S2 with
      | none => rw [e4] at hf2; cases hf2
      | some r =>
        obtain ⟨fl2, ρ4, S4⟩ := r
        refine ⟨rs, ι2, ρ3, S2, fl2, ρ4, S4, R3, En4, e4, ?_⟩
        rw [e4] at hf2
        cases fl2 with
        | nx =>
          intro ι5 σ5 H5 E5 R5 En5
          dsimp only at hf2
          split at hf2
          · rename_i st5
            exact ⟨ι5, ρ4, S4, (E2.trans E3).trans E5, R5, En5, st5, hf2, k2.from (E3.trans E5)⟩
          · cases hf2
        | ct =>
          intro ι5 σ5 H5 E5 R5 En5
          dsimp only at hf2
          split at hf2
          · rename_i st5
            exact ⟨ι5, ρ4, S4, (E2.trans E3).trans E5, R5, En5, st5, hf2, k2.from (E3.trans E5)⟩
          · cases hf2
        | bk => cases hf2; exact EndsP.from (fl := .nx) k2 E3
        | rt d => cases hf2; exact Post.from k2 E3
  · have e : i = xs.length := by omega
    subst e
    rw [List.drop_length] at hf2
    cases hf2
    exact .inl ⟨y.stop rs ι2 _ H2 (fun _ _ _ z => z) E2 R2 st2, k2 ι2 σ2 H2 Ext.refl R2 En2⟩
end

/-! ### list comprehensions -/
def wipeR (ρ : Rho) : List Nat → Rho
  | [] => ρ
  | v :: vs => (wipeR ρ vs).set v none
theorem EnvAt.wipe {K : KR} {ι : Nat → Addr} {N : Nat} {H : Hp} {ρ : Rho} {σ : L2.St} (h : EnvAt K ι N H ρ σ) : ∀ vs : List Nat, EnvAt K ι N H (wipeR ρ vs) (wipe σ vs)
  | [] => h
  | v :: vs => by
    have ih := EnvAt.wipe h vs
    refine ⟨by simp only [wipeR, L2.wipe, List.length_set]; exact ih.1, fun i d e => ?_⟩
    simp only [wipeR, L2.wipe] at e ⊢
    by_cases hv : v = i
    · subst hv
      by_cases hl : v < (wipeR ρ vs).length
      · rw [List.getElem?_set_self hl] at e; cases e
      · rw [List.getElem?_eq_none (by simpa using hl)] at e; cases e
    · rw [List.getElem?_set_ne hv] at e ⊢
      exact ih.2 i d e
theorem wipe_in {σ : L2.St} {i : Nat} : ∀ {vs : List Nat}, i ∈ vs → i < σ.length → (wipe σ vs)[i]? = some none
  | v :: vs, h, hl => by
    simp only [L2.wipe]
    by_cases hv : v = i
    · subst hv
      rw [List.getElem?_set_self (by rw [wipe_length]; exact hl)]
    · rw [List.getElem?_set_ne hv]
      rcases List.mem_cons.mp h with z | z
      · exact absurd z.symm hv
      · exact wipe_in z hl
theorem wipe_again {σ τ : L2.St} {vs : List Nat} (hl : τ.length = (wipe σ vs).length) (h : ∀ j, j ∉ vs → τ[j]? = (wipe σ vs)[j]?) : wipe τ vs = wipe σ vs := by
  apply List.ext_getElem?
  intro i
  by_cases hi : i ∈ vs
  · by_cases hlt : i < σ.length
    · rw [wipe_in hi hlt, wipe_in hi (by rw [hl, wipe_length]; exact hlt)]
    · rw [List.getElem?_eq_none (by rw [wipe_length, hl, wipe_length]; omega), List.getElem?_eq_none (by rw [wipe_length]; omega)]
  · rw [wipe_out hi, h i hi]
def lcB (t : Tg) (c : Gb) (f : G) (st : Sto → Bool) (ρ : Rho) : List D → Sto → Option (List D × Sto)
  | [], S => some ([], S)
  | x :: xs, S => match t x ρ with
    | none => none
    | some ρ1 => match c ρ1 S with
      | none => none
      | some (false, S1) => if st S1 = true then lcB t c f st ρ xs S1 else none
      | some (true, S1) => match f ρ1 S1 with
        | none => none
        | some (d, S2) => if st S2 = true then (match lcB t c f st ρ xs S2 with
          | none => none
          | some (ds, S3) => some (d :: ds, S3)) else none
def cLc (src : Src) (t : Tg) (c : Gb) (f : G) (vs : List Nat) : G := fun ρ S => match src ρ S with
  | none => none
  | some (xs, w, S1) => match lcB t c f (still xs w) (wipeR ρ vs) xs S1 with
    | none => none
    | some (ds, S2) => some (.lst ds, S2)
/-- the data does not lie where a list is being made -/
theorem Ext.making {ι ι' : Nat → Addr} {N N' : Nat} {H H' : Hp} {D0 : Addr} {o : HO} (E : Ext ι N H ι' N' H') (hD : H D0 = none) : Ext ι N H ι' N' (upd H' D0 o) :=
  ⟨E.le, E.eqi, E.new, fun a u h hn => by rw [upd_ne (ne_of_none h hD)]; exact E.keep a u h hn, fun a u h => by rw [upd_ne (ne_of_none h hD)]; exact E.live a u h⟩
section
variable {K : KR} {ι : Nat → Addr} {S : Sto} {N : Nat} {H : Hp} {D0 : Addr} {o : HO}
mutual
theorem At.offD (hr : K.rs D0) (nr : ∀ m, m < N → ι m ≠ D0) (nt : ∀ vs, H D0 ≠ some (.tup vs)) (nf : ∀ a b, H D0 ≠ some (.frz a b)) : ∀ {d : D} {v : V}, At K ι N H d v → At K ι N (upd H D0 o) d v
  | _, _, .non => .non
  | _, _, .bl b => .bl b
  | _, _, .int i => .int i
  | _, _, .str x => .str x
  | _, _, .tup (a := a) h z l => .tup (by
      rcases h with (h | ⟨u, h⟩) | h
      · exact .inl (.inl (by rw [upd_ne (fun e => nt _ (e ▸ h))]; exact h))
      · exact .inl (.inr ⟨u, by rw [upd_ne (fun e => nf _ _ (e ▸ h))]; exact h⟩)
      · exact .inr h) z (AtL.offD hr nr nt nf l)
  | _, _, .lst h z l => .lst ⟨by rw [upd_ne (fun e => h.2.2 (by rw [e]; exact hr))]; exact h.1, h.2⟩ z (AtL.offD hr nr nt nf l)
  | _, _, .scr h z l => .scr (by
      rcases h with ⟨u, h⟩ | h
      · exact .inl ⟨u, by rw [upd_ne (fun e => nf _ _ (e ▸ h))]; exact h⟩
      · exact .inr h) z (AtL.offD hr nr nt nf l)
  | _, _, .ref h => .ref h
theorem AtL.offD (hr : K.rs D0) (nr : ∀ m, m < N → ι m ≠ D0) (nt : ∀ vs, H D0 ≠ some (.tup vs)) (nf : ∀ a b, H D0 ≠ some (.frz a b)) : ∀ {ds : List D} {vs : List V}, AtL K ι N H ds vs → AtL K ι N (upd H D0 o) ds vs
  | _, _, .nil => .nil
  | _, _, .cons h t => .cons (At.offD hr nr nt nf h) (AtL.offD hr nr nt nf t)
end
theorem Rel.offD (hr : K.rs D0) (nr : ∀ m, m < S.length → ι m ≠ D0) {xs : List V} (hl : H D0 = some (.lst xs)) (R : Rel K ι S H) : Rel K ι S (upd H D0 o) := by
  have nt : ∀ vs, H D0 ≠ some (.tup vs) := fun vs z => by rw [hl] at z; cases z
  have nf : ∀ a b, H D0 ≠ some (.frz a b) := fun a b z => by rw [hl] at z; cases z
  refine ⟨R.inj, fun n u e => ?_, fun a h => ?_⟩
  · have hn := (List.getElem?_eq_some_iff.mp e).1
    have := R.obj n u e
    cases u with
    | lst ds =>
      obtain ⟨vs, q1, q2, q3⟩ := this
      exact ⟨vs, by rw [upd_ne (nr n hn)]; exact q1, q2.offD hr nr nt nf, q3⟩
    | dct kvs =>
      obtain ⟨vs, q1, q2, q3⟩ := this
      exact ⟨vs, by rw [upd_ne (nr n hn)]; exact q1, Paired.mapP q2 fun _ _ z => ⟨z.1, z.2.offD hr nr nt nf⟩, q3⟩
  · by_cases e : a = D0
    · exact ⟨o, by rw [e, upd_same]⟩
    · obtain ⟨u, q⟩ := R.res a h
      exact ⟨u, by rw [upd_ne e]; exact q⟩
end
abbrev DTs (X : Cx) (ifs : List Expr) (f : Gb) : Prop := PTs X ifs (tT X.K f)
def cYes : Gb := fun _ S => some (true, S)
theorem PTs.imp {X : Cx} {e : List Expr} {t t' : TT} (h : PTs X e t) (i : ∀ σ H Q, t' σ H Q → t σ H Q) : PTs X e t' := ⟨fun pins s σ H Q I q => h.run pins s σ H Q I (i _ _ _ q)⟩
theorem dts_nil {X : Cx} : DTs X [] cYes := by
  refine PTs.imp pts_nil ?_
  rintro σ H Q ⟨rs, ι, ρ, S, d, S', R, En, hf, k⟩
  cases hf
  exact k _ _ Ext.refl R
theorem dts_one {X : Cx} {c : Expr} {f : Gb} (h : DT X c f) : DTs X [c] f := pts_one h
section
variable {X : Cx} {elt tg iter : Expr} {ifs : List Expr} {scope : Scope} {own : List (Str × Nat)} {pos : Pos} {src : Src} {t : Tg} {ix : List Nat} {ft : Gb} {fe : G}
theorem cLc_of {K : PySem.W.Frag} {vs : List Nat} (hix : ∀ i ∈ ix, i ∈ vs) : ∀ σ H Q, tE K (cLc src t ft fe vs) σ H Q → tLc (tI K src) (tG K t ix) (tT K ft) (tE K fe) vs σ H Q := by
  rintro σ H Q ⟨rs, ι, ρ, S, d, S', R, En, hf, kk⟩
  unfold cLc at hf
  split at hf
  · cases hf
  rename_i xs w S1 e1
  split at hf
  · cases hf
  rename_i ds S2 e2
  cases hf
  refine ⟨rs, ι, ρ, S, xs, w, S1, R, En, e1, fun ι1 H1 J E1 R1 st1 y D0 hD => ?_⟩
  have En1 := (En.mono R E1)
  -- the new list is reserved
  have hw : ∀ a o, H1 a = some o → (rs a ∨ a = D0) → rs a := fun a o q z => z.elim id fun e => by rw [e, hD] at q; cases q
  have R1' : Rel ⟨K, fun a => rs a ∨ a = D0⟩ ι1 S1 (upd H1 D0 (.lst [])) := by
    refine ⟨R1.inj, fun n u e => ((R1.obj n u e).wide hw).mono R1 (Ext.fresh hD) (by rw [upd_ne (R1.ne_none hD n (List.getElem?_eq_some_iff.mp e).1)]), fun a h => ?_⟩
    rcases h with h | h
    · obtain ⟨u, q⟩ := R1.res a h
      exact ⟨u, by rw [upd_ne (ne_of_none q hD)]; exact q⟩
    · exact ⟨_, by rw [h, upd_same]⟩
  have En1' : EnvAt ⟨K, fun a => rs a ∨ a = D0⟩ ι1 S1.length (upd H1 D0 (.lst [])) ρ σ := ⟨En1.1, fun i d e => let ⟨v, q, a⟩ := En1.2 i d e; ⟨v, q, (a.wide hw).mono R1 (Ext.fresh hD)⟩⟩
  have nd1 : ∀ m, m < S1.length → ι1 m ≠ D0 := R1.ne_none hD
  refine ⟨fun i m H2 => m = xs.length - i ∧ i ≤ xs.length ∧ ∃ ι2 S3 accd accv rest, Ext ι1 S1.length H1 ι2 S3.length H2 ∧ Rel ⟨K, fun a => rs a ∨ a = D0⟩ ι2 S3 H2 ∧ H2 D0 = some (.lst accv) ∧ (∀ m, m < S3.length → ι2 m ≠ D0) ∧
    AtL ⟨K, fun a => rs a ∨ a = D0⟩ ι2 S3.length H2 accd accv ∧ accv.length ≤ i ∧ still xs w S3 = true ∧ lcB t ft fe (still xs w) (wipeR ρ vs) (xs.drop i) S3 = some (rest, S') ∧ ds = accd ++ rest,
    ⟨xs.length, by simp, Nat.zero_le _, ι1, S1, [], [], ds, Ext.fresh hD, R1', upd_same, nd1, .nil, Nat.le_refl _, st1, e2, rfl⟩, ?_⟩
  rintro i m H2 ⟨rfl, hi, ι2, S3, accd, accv, rest, E2, R2, hD2, nd2, aL, al, st2, hf2, eds⟩
  by_cases hlt : i < xs.length
  · refine .inr ⟨y.go _ ι2 S3 H2 hw E2 R2 st2 i hlt, fun H3 => ∃ ι3 S4 accd accv rest, Ext ι1 S1.length H1 ι3 S4.length H3 ∧ Rel ⟨K, fun a => rs a ∨ a = D0⟩ ι3 S4 H3 ∧ H3 D0 = some (.lst accv) ∧ (∀ m, m < S4.length → ι3 m ≠ D0) ∧
        AtL ⟨K, fun a => rs a ∨ a = D0⟩ ι3 S4.length H3 accd accv ∧ accv.length ≤ i + 1 ∧ still xs w S4 = true ∧ lcB t ft fe (still xs w) (wipeR ρ vs) (xs.drop (i + 1)) S4 = some (rest, S') ∧ ds = accd ++ rest,
      fun H3 h3 => ⟨xs.length - (i + 1), by omega, rfl, by omega, h3⟩, fun x H3 hy => ?_⟩
    have hd : xs[i]? = some xs[i] := List.getElem?_eq_getElem hlt
    obtain ⟨E3, R3, a3⟩ := y.yld _ ι2 S3 H2 hw E2 R2 st2 i _ hd x H3 hy
    have hD3 : H3 D0 = some (.lst accv) := E3.keep _ _ hD2 nd2
    have En2 : EnvAt ⟨K, fun a => rs a ∨ a = D0⟩ ι2 S3.length H3 (wipeR ρ vs) (wipe σ vs) := by
      refine EnvAt.wipe ⟨En1.1, fun j dj e => ?_⟩ vs
      obtain ⟨v, q, a⟩ := En1.2 j dj e
      exact ⟨v, q, ((a.wide hw).mono R1 E2).mono R2 E3⟩
    rw [List.drop_eq_getElem_cons hlt] at hf2
    simp only [lcB] at hf2
    split at hf2
    · cases hf2
    rename_i ρ3 e3
    refine ⟨_, ι2, wipeR ρ vs, S3, _, ρ3, R3, En2, a3, e3, fun σ4 En4 hl4 hj4 => ⟨wipe_again hl4 fun j hj => hj4 j fun z => hj (hix j z), ?_⟩⟩
    have grow : ∀ {ι5 : Nat → Addr} {S5 : Sto} {H5 : Hp}, Ext ι2 S3.length H3 ι5 S5.length H5 → H5 D0 = some (.lst accv) ∧ (∀ m, m < S5.length → ι5 m ≠ D0) ∧ Ext ι1 S1.length H1 ι5 S5.length H5 := by
      intro ι5 S5 H5 E5
      refine ⟨E5.keep _ _ hD3 nd2, fun m hm z => ?_, (E2.trans E3).trans E5⟩
      by_cases hk : m < S3.length
      · rw [E5.eqi m hk] at z; exact nd2 m hk z
      · have q := E5.new m (Nat.le_of_not_lt hk) hm
        rw [z, hD3] at q; cases q
    cases e4 : ft ρ3 S3 with
    | none => rw [e4] at hf2; cases hf2
    | some r =>
      obtain ⟨c, S4⟩ := r
      refine tT.go R3 En4 e4 fun ι5 H5 E5 R5 En5 => ?_
      obtain ⟨hD5, nd5, E5'⟩ := grow E5
      rw [e4] at hf2
      cases c with
      | false =>
        rw [if_neg (by decide)]
        dsimp only at hf2
        split at hf2
        · rename_i st5
          exact ⟨ι5, S4, accd, accv, rest, E5', R5, hD5, nd5, (aL.mono R2 E3).mono R3 E5, by omega, st5, hf2, eds⟩
        · cases hf2
      | true =>
        rw [if_pos rfl]
        dsimp only at hf2
        cases e6 : fe ρ3 S4 with
        | none => rw [e6] at hf2; cases hf2
        | some r =>
          obtain ⟨d6, S6⟩ := r
          rw [e6] at hf2
          dsimp only at hf2
          split at hf2
          case isFalse => cases hf2
          rename_i st6
          split at hf2
          · cases hf2
          rename_i rest' S7 e7
          cases hf2
          refine tE.go R5 En5 e6 fun ι6 H6 v E6 R6 En6 a6 => ?_
          obtain ⟨hD6, nd6, E6'⟩ := grow (E5.trans E6)
          have nt : ∀ vs, H6 D0 ≠ some (.tup vs) := fun vs z => by rw [hD6] at z; cases z
          have nf : ∀ a b, H6 D0 ≠ some (.frz a b) := fun a b z => by rw [hD6] at z; cases z
          have aL6 := ((aL.mono R2 E3).mono R3 E5).mono R5 E6
          exact ⟨accv, hD6, by have := y.sz; omega, ι6, S6, accd ++ [d6], accv ++ [v], rest', E6'.making hD, R6.offD (Or.inr rfl) nd6 hD6, upd_same, nd6, (aL6.offD (Or.inr rfl) nd6 nt nf).append (.cons (a6.offD (Or.inr rfl) nd6 nt nf) .nil), by simp; omega, st6, e7, by rw [eds]; simp⟩
  · have e : i = xs.length := by omega
    subst e
    rw [List.drop_length] at hf2
    cases hf2
    rw [List.append_nil] at eds
    subst eds
    refine .inl ⟨y.stop _ ι2 _ H2 hw E2 R2 st2, kk ι2 H2 _ (E1.trans E2) ⟨R2.inj, fun n u e => (R2.obj n u e).wide (rs' := rs) fun _ _ _ z => Or.inl z, fun a h => R2.res a (Or.inl h)⟩ (.lst ⟨hD2, nd2, fun z => ?_⟩ (by have := y.sz; omega) (aL.wide (rs' := rs) fun _ _ _ z => Or.inl z))⟩
    obtain ⟨u, q⟩ := R1.res D0 z
    rw [hD] at q; cases q
theorem de_lc (hc : X.calm = true) (hN : X.N.Nodup) (hi : DI X tg iter src) (ok : BlkOk X.N X.env.scope scope own)
    (hg : ∀ (s : Shared) (H : Hp) (C : Addr) (cl : List (Str × Addr)) (fp : List Addr), DG (X.blk s H scope (compEnvC scope cl C X.env) fp) tg t ix) (ht : ∀ (s : Shared) (H : Hp) (C : Addr) (cl : List (Str × Addr)) (fp : List Addr), DTs (X.blk s H scope (compEnvC scope cl C X.env) fp) ifs ft)
    (he : ∀ (s : Shared) (H : Hp) (C : Addr) (cl : List (Str × Addr)) (fp : List Addr), DE (X.blk s H scope (compEnvC scope cl C X.env) fp) elt fe) (hix : ∀ i ∈ ix, i ∈ own.map (·.2) := by decide) (hs : ∀ x, foldedSetIterable iter X.env x = pure x := by intro _; rfl) :
    DE X (.ListComp elt [⟨tg, iter, ifs, 0⟩] scope pos) (cLc src t ft fe (own.map (·.2))) := PE.imp (pe_lc hc hN hi ok hg ht he hs) (cLc_of hix)
end
end FS
set_option Elab.async false
set_option linter.all false
set_option maxRecDepth 100000
set_option maxHeartbeats 4000000
namespace FS
open PySem PySem.Spec PyProof.Rows L2

section
variable {X : Cx} {pos : Pos} {e c : Expr} {st : Stmt} {rest : List Stmt} {f g h : G} {ft : Gb} {b b1 b2 : B}
def cNx : B := fun ρ S => some (.nx, ρ, S)
def cSeq (b1 b2 : B) : B := fun ρ S => match b1 ρ S with
  | some (.nx, ρ1, S1) => b2 ρ1 S1
  | r => r
theorem dss_nil : DSs X [] cNx := by
  refine PSs.imp pss_nil ?_
  rintro D' σ H ⟨rs, ι, ρ, S, fl, ρ', S', R, En, hf, k⟩
  cases hf
  exact k _ _ _ Ext.refl R En
theorem dss_cons (h1 : DS X st b1) (h2 : DSs X rest b2) : DSs X (st :: rest) (cSeq b1 b2) := by
  refine PSs.imp (pss_cons h1 h2) ?_
  rintro D' σ H ⟨rs, ι, ρ, S, fl, ρ', S', R, En, hf, k⟩
  unfold cSeq at hf
  split at hf
  · rename_i ρ1 S1 e1
    exact ⟨rs, ι, ρ, S, .nx, ρ1, S1, R, En, e1, fun ι1 σ1 H1 E1 R1 En1 => ⟨rs, ι1, ρ1, S1, fl, ρ', S', R1, En1, hf, k.from E1⟩⟩
  · rename_i hn
    refine ⟨rs, ι, ρ, S, fl, ρ', S', R, En, hf, ?_⟩
    cases fl with
    | nx => exact absurd hf (hn _ _)
    | rt d => exact k
    | bk => exact k
    | ct => exact k
theorem dss_one (h1 : DS X st b) : DSs X [st] b := pss_one h1
def cRet (f : G) : B := fun ρ S => match f ρ S with
  | some (d, S1) => some (.rt d, ρ, S1)
  | none => none
theorem ds_ret (he : DE X e f) : DS X (.Return (some e) pos) (cRet f) := by
  refine PS.imp (ps_ret he) ?_
  rintro D' σ H ⟨rs, ι, ρ, S, fl, ρ', S', R, En, hf, k⟩
  unfold cRet at hf
  split at hf
  · rename_i d S1 e1
    cases hf
    exact ⟨rs, ι, ρ, S, d, _, R, En, e1, k⟩
  · cases hf
def cRetN : B := fun ρ S => some (.rt .non, ρ, S)
theorem ds_retN : DS X (.Return none pos) cRetN := by
  refine PS.imp ps_retN ?_
  rintro D' σ H ⟨rs, ι, ρ, S, fl, ρ', S', R, En, hf, k⟩
  cases hf
  exact Post.same k R .non
def cDrop (f : G) : B := fun ρ S => match f ρ S with
  | some (_, S1) => some (.nx, ρ, S1)
  | none => none
theorem ds_expr (he : DE X e f) (hs : swapsWith e none pos.line X.env = pure false := by rfl) : DS X (.Expr e pos) (cDrop f) := by
  refine PS.imp (ps_expr he hs) ?_
  rintro D' σ H ⟨rs, ι, ρ, S, fl, ρ', S', R, En, hf, k⟩
  unfold cDrop at hf
  split at hf
  · rename_i d S1 e1
    cases hf
    exact tE.go R En e1 fun ι1 H1 v E1 R1 En1 a1 => k _ _ _ E1 R1 En1
  · cases hf
theorem ds_pass : DS X (.Pass pos) cNx := by
  refine PS.imp ps_pass ?_
  rintro D' σ H ⟨rs, ι, ρ, S, fl, ρ', S', R, En, hf, k⟩
  cases hf
  exact k _ _ _ Ext.refl R En
def cBk : B := fun ρ S => some (.bk, ρ, S)
def cCt : B := fun ρ S => some (.ct, ρ, S)
theorem ds_break : DS X (.Break pos) cBk := by
  refine PS.imp ps_break ?_
  rintro D' σ H ⟨rs, ι, ρ, S, fl, ρ', S', R, En, hf, k⟩
  cases hf
  exact k _ _ _ Ext.refl R En
theorem ds_continue : DS X (.Continue pos) cCt := by
  refine PS.imp ps_continue ?_
  rintro D' σ H ⟨rs, ι, ρ, S, fl, ρ', S', R, En, hf, k⟩
  cases hf
  exact k _ _ _ Ext.refl R En
theorem ds_doc {x j pos'} : DS X (.Expr (.Constant (.str x) j pos) pos') cNx := by
  refine PS.imp ps_doc ?_
  rintro D' σ H ⟨rs, ι, ρ, S, fl, ρ', S', R, En, hf, k⟩
  cases hf
  exact k _ _ _ Ext.refl R En
def cIfS (c : Gb) (b1 b2 : B) : B := fun ρ S => match c ρ S with
  | some (true, S1) => b1 ρ S1
  | some (false, S1) => b2 ρ S1
  | none => none
theorem ds_if {as bs : List Stmt} (hc : DT X c ft) (ha : DSs X as b1) (hb : DSs X bs b2) : DS X (.If c as bs pos) (cIfS ft b1 b2) := by
  refine PS.imp (ps_if hc ha hb) ?_
  rintro D' σ H ⟨rs, ι, ρ, S, fl, ρ', S', R, En, hf, k⟩
  unfold cIfS at hf
  split at hf
  · rename_i S1 e1
    refine tT.go R En e1 fun ι1 H1 E1 R1 En1 => ?_
    rw [if_pos rfl]
    exact ⟨rs, ι1, ρ, S1, fl, ρ', S', R1, En1, hf, k.from E1⟩
  · rename_i S1 e1
    refine tT.go R En e1 fun ι1 H1 E1 R1 En1 => ?_
    rw [if_neg (by decide)]
    exact ⟨rs, ι1, ρ, S1, fl, ρ', S', R1, En1, hf, k.from E1⟩
  · cases hf
def cSet (i : Nat) (f : G) : B := fun ρ S => match f ρ S with
  | some (d, S1) => some (.nx, ρ.set i (some d), S1)
  | none => none
theorem cSet_of {K : PySem.W.Frag} {i : Nat} {D' : Ends} {σ : L2.St} {H : Hp} (q : tS K (cSet i f) D' σ H) : tAsg (tE K f) (gName i) D' σ H := by
  obtain ⟨rs, ι, ρ, S, fl, ρ', S', R, En, hf, k⟩ := q
  unfold cSet at hf
  split at hf
  · rename_i d S1 e1
    cases hf
    exact tE.go R En e1 fun ι1 H1 v E1 R1 En1 a1 => k _ _ _ E1 R1 (En1.set a1)
  · cases hf
theorem ds_set (i : Nat) {x : Str} {pos' : Pos} (he : DE X e f) (hN : X.N.Nodup) (hi : X.N[i]? = some x) (hx : Loc X.env.scope x) (hs : swapsWith e (some (.Name x pos')) pos.line X.env = pure false := by rfl) (hf : X.fn x = true ∨ X.env.scope.names.lookup x = some .local := by first | exact .inl rfl | exact .inr rfl | assumption) :
    DS X (.Assign [.Name x pos'] e pos) (cSet i f) := PS.imp (ps_set hN hi hx he hs hf) fun _ _ _ q => cSet_of q
theorem ds_setLc (i : Nat) {y : Str} {py : Pos} {elt tg iter : Expr} {ifs : List Expr} {scope : Scope} {own : List (Str × Nat)} {spos : Pos} {src : Src} {t : Tg} {ix : List Nat} {fe : G} (hc : X.calm = true) (hN : X.N.Nodup) (hy : X.N[i]? = some y) (hyl : X.env.scope.names.lookup y = some .local)
    (hsw : swapsWith (.ListComp elt [⟨tg, iter, ifs, 0⟩] scope pos) (some (.Name y py)) spos.line X.env = pure true) (hi : DI X tg iter src) (ok : BlkOk X.N X.env.scope scope own)
    (hg : ∀ (s : Shared) (H : Hp) (C : Addr) (cl : List (Str × Addr)) (fp : List Addr), DG (X.blk s H scope (compEnvC scope cl C X.env) fp) tg t ix) (ht : ∀ (s : Shared) (H : Hp) (C : Addr) (cl : List (Str × Addr)) (fp : List Addr), DTs (X.blk s H scope (compEnvC scope cl C X.env) fp) ifs ft)
    (he : ∀ (s : Shared) (H : Hp) (C : Addr) (cl : List (Str × Addr)) (fp : List Addr), DE (X.blk s H scope (compEnvC scope cl C X.env) fp) elt fe) (hix : ∀ i ∈ ix, i ∈ own.map (·.2) := by decide) (hs : ∀ x, foldedSetIterable iter X.env x = pure x := by intro _; rfl) :
    DS X (.Assign [.Name y py] (.ListComp elt [⟨tg, iter, ifs, 0⟩] scope pos) spos) (cSet i (cLc src t ft fe (own.map (·.2)))) := by
  refine PS.imp (ps_setLc (te := tE X.K fe) (g := tG X.K t ix) (tt := tT X.K ft) hc hN hy hyl hsw hi ok hg ht he hs) fun D' σ H q => ?_
  exact cLc_of hix σ H _ (cSet_of q)
def cAsg (f : G) (t : Tg) : B := fun ρ S => match f ρ S with
  | some (d, S1) => match t d ρ with
    | some ρ1 => some (.nx, ρ1, S1)
    | none => none
  | none => none
theorem ds_asg {tg : Expr} {t : Tg} {ix : List Nat} (he : DE X e f) (hg : DG X tg t ix) (hs : swapsWithSole [tg] e pos.line X.env = pure false := by rfl) (hw : swappedStores [tg] e X.env = pure none := by rfl)
    (h1 : (assignEach [tg] X.env).map (·.2) = [assign tg X.env] := by rfl) : DS X (.Assign [tg] e pos) (cAsg f t) := by
  refine PS.imp (ps_asg he hg hs hw h1) ?_
  rintro D' σ H ⟨rs, ι, ρ, S, fl, ρ', S', R, En, hf, k⟩
  unfold cAsg at hf
  split at hf
  · rename_i d S1 e1
    split at hf
    · rename_i ρ1 e2
      cases hf
      exact tE.go R En e1 fun ι1 H1 v E1 R1 En1 a1 => ⟨rs, ι1, ρ, _, d, _, R1, En1, a1, e2, fun σ' En' _ _ => k _ _ _ E1 R1 En'⟩
    · cases hf
  · cases hf
def cPar (i j : Nat) (r : Gs) : B := fun ρ S => match r ρ S with
  | some ([x, y], S1) => some (.nx, (ρ.set i (some x)).set j (some y), S1)
  | _ => none
theorem ds_par (i j : Nat) {x y : Str} {a b : Expr} {fs : Gs} {px py pt : Pos} {kt k2 pt2} (hc : X.calm = true) (hN : X.N.Nodup) (hi : X.N[i]? = some x) (hj : X.N[j]? = some y) (hij : i ≠ j)
    (hx : X.env.scope.names.lookup x = some .local) (hy : X.env.scope.names.lookup y = some .local) (ha : DA X [a, b] fs)
    (hw : swappedStores [.Tuple [.Name x px, .Name y py] kt pt] (.Tuple [a, b] k2 pt2) X.env = pure (some [x, y]))
    (hs : swapsWithSole [.Tuple [.Name x px, .Name y py] kt pt] (.Tuple [a, b] k2 pt2) pos.line X.env = pure false := by rfl) :
    DS X (.Assign [.Tuple [.Name x px, .Name y py] kt pt] (.Tuple [a, b] k2 pt2) pos) (cPar i j fs) := by
  refine PS.imp (ps_par hc hN hi hj hij hx hy ha hw hs) ?_
  rintro D' σ H ⟨rs, ι, ρ, S, fl, ρ', S', R, En, hf, k⟩
  unfold cPar at hf
  split at hf
  · rename_i x y S1 e1
    cases hf
    refine tL.go R En e1 fun ι1 H1 vs E1 R1 En1 a1 => ?_
    cases a1 with
    | cons h1 t1 =>
      cases t1 with
      | cons h2 t2 =>
        cases t2
        exact ⟨_, _, rfl, k _ _ _ E1 R1 ((En1.set h1).set h2)⟩
  · cases hf

/-! ### match over written texts -/
def cCase (d : D) (x : Str) (b1 b2 : B) : B := match d with
  | .str y => if y = x then b1 else b2
  | _ => fun _ _ => none
structure DM (X : Cx) (cs : List MatchCase) (b : D → B) : Prop where
  run : ∀ (first : Bool) (pins : List (Addr × Obj)) (s : Shared) (σ : L2.St) (H : Hp) (D' : Ends) (v : V) (u : Value) (rs : Addr → Prop) (ι : Nat → Addr) (ρ : Rho) (S : Sto) (d : D) (fl : Flw) (ρ' : Rho) (S' : Sto), L2.Inv X pins σ H s → RelV v u →
    Rel ⟨X.K, rs⟩ ι S H → EnvAt ⟨X.K, rs⟩ ι S.length H ρ σ → At ⟨X.K, rs⟩ ι S.length H d v → b d ρ S = some (fl, ρ', S') → EndsP ⟨X.K, rs⟩ ι S H D' fl ρ' S' →
    wpAny (model X.prog X.w) X.A (matchCases cs X.env u first) (SP X pins D') X.xe s
theorem dm_nil : DM X [] (fun _ => cNx) := by
  refine ⟨fun first pins s σ H D' v u rs ι ρ S d fl ρ' S' I r R En a hf k => ?_⟩
  cases hf
  exact wpAny_matchCases_nil ⟨σ, H, I, k _ _ _ Ext.refl R En⟩
theorem dm_case {x : Str} {j : Nat} {p1 p2 : Pos} {body : List Stmt} {cs : List MatchCase} {b2 : D → B} (h1 : DSs X body b1) (h2 : DM X cs b2) :
    DM X (⟨.MatchValue (.Constant (.str x) j p1) p2, none, body⟩ :: cs) (fun d => cCase d x b1 (b2 d)) := by
  refine ⟨fun first pins s σ H D' v u rs ι ρ S d fl ρ' S' I r R En a hf k => ?_⟩
  unfold cCase at hf
  split at hf
  · rename_i y
    cases a
    obtain ⟨t, rfl⟩ := r
    apply wpAny_matchCases_cons
    apply wpAny_matchPattern_Value
    refine thn ((pe_str (X := X) (x := x) (j := j) (pos := p1)).run pins s σ H (fun w H1 => w = .str x ∧ H1 = H) I ⟨rfl, rfl⟩) ?_
    rintro w s1 ⟨v1, H1, I1, r1, rfl, rfl⟩
    obtain ⟨t1, rfl⟩ := r1
    refine thn (op_eq pins s1 σ H1 (V.str y) (V.str x) (.str y t) (.str x t1) (fun w H2 => w = .bl (decide (V.str y = V.str x)) ∧ H2 = H1) I1 (show RelV (V.str y) (.str y t) from ⟨t, rfl⟩) (show RelV (V.str x) (.str x t1) from ⟨t1, rfl⟩) ⟨rfl, rfl, rfl⟩) ?_
    rintro w2 s2 ⟨v2, H2, I2, r2, rfl, rfl⟩
    cases r2
    apply wpAny_truthy_bool
    by_cases hy : y = x
    · rw [if_pos hy] at hf
      rw [if_pos (decide_eq_true (by rw [hy]))]
      exact assignInOrder_nil (h1.run pins s2 σ H2 D' I2 ⟨rs, ι, ρ, S, fl, ρ', S', R, En, hf, k⟩)
    · rw [if_neg hy] at hf
      rw [if_neg (by rw [decide_eq_true_iff]; intro z; exact hy (V.str.inj z))]
      exact h2.run false pins s2 σ H2 D' _ _ rs ι ρ S _ fl ρ' S' I2 (show RelV (V.str y) (.str y t) from ⟨t, rfl⟩) R En (.str y) hf k
  · cases hf
theorem dm_else {p2 : Pos} {body : List Stmt} {cs : List MatchCase} (h1 : DSs X body b1) : DM X (⟨.MatchAs none none p2, none, body⟩ :: cs) (fun _ => b1) := by
  refine ⟨fun first pins s σ H D' v u rs ι ρ S d fl ρ' S' I r R En a hf k => ?_⟩
  apply wpAny_matchCases_cons
  apply wpAny_matchPattern_Capture
  exact assignInOrder_nil (h1.run pins s σ H D' I ⟨rs, ι, ρ, S, fl, ρ', S', R, En, hf, k⟩)
def cMatch (f : G) (b : D → B) : B := fun ρ S => match f ρ S with
  | some (d, S1) => b d ρ S1
  | none => none
theorem ds_match {cs : List MatchCase} {b : D → B} (he : DE X e f) (hm : DM X cs b) : DS X (.Match e cs pos) (cMatch f b) := by
  constructor
  rintro pins s σ H D' I ⟨rs, ι, ρ, S, fl, ρ', S', R, En, hf, k⟩
  unfold cMatch at hf
  split at hf
  · rename_i d S1 e1
    apply wpAny_Match
    have q : tE X.K f σ H (fun v H1 => ∃ ι1, Ext ι S.length H ι1 S1.length H1 ∧ Rel ⟨X.K, rs⟩ ι1 S1 H1 ∧ EnvAt ⟨X.K, rs⟩ ι1 S1.length H1 ρ σ ∧ At ⟨X.K, rs⟩ ι1 S1.length H1 d v) := tE.go R En e1 fun ι1 H1 v E1 R1 En1 a1 => ⟨ι1, E1, R1, En1, a1⟩
    refine thn (he.run pins s σ H _ I q) ?_
    rintro u s1 ⟨v, H1, I1, r1, ι1, E1, R1, En1, a1⟩
    exact hm.run true pins s1 σ H1 D' v u rs ι1 ρ S1 d fl ρ' S' I1 r1 R1 En1 a1 hf (k.from E1)
  · cases hf
end
end FS
set_option Elab.async false
set_option linter.all false
set_option maxRecDepth 100000
set_option maxHeartbeats 4000000
namespace FS
open PySem PySem.Spec PyProof.Rows L2

section
variable {X : Cx} {pos p2 : Pos} {a b c o e : Expr} {es : List Expr} {f g h : G} {fs gs : Gs}
/-! ### a slice with a step -/
def pickD {α : Type} (xs : List α) (lo hi st : Option Int) : List α := (sliceRange (sliceBounds lo hi st xs.length).1 (sliceBounds lo hi st xs.length).2.1 (sliceBounds lo hi st xs.length).2.2).filterMap fun i => xs[i]?
theorem AtL.picks {K : KR} {ι : Nat → Addr} {N : Nat} {H : Hp} {ds : List D} {vs : List V} (l : AtL K ι N H ds vs) : ∀ is : List Nat, AtL K ι N H (is.filterMap fun i => ds[i]?) (is.filterMap fun i => vs[i]?)
  | [] => .nil
  | i :: is => by
    have ih := l.picks is
    cases e : ds[i]? with
    | none =>
      have hv : vs[i]? = none := by
        rw [List.getElem?_eq_none_iff] at e ⊢
        rw [← l.length]; exact e
      rw [List.filterMap_cons, List.filterMap_cons, e, hv]
      exact ih
    | some d =>
      obtain ⟨v, q, w⟩ := l.get e
      rw [List.filterMap_cons, List.filterMap_cons, e, q]
      exact .cons w ih
theorem Vals.picks {vs : List V} {us : List Value} (r : Vals vs us) : ∀ is : List Nat, Vals (is.filterMap fun i => vs[i]?) (is.filterMap fun i => us[i]?)
  | [] => .nil
  | i :: is => by
    have ih := Vals.picks r is
    cases e : vs[i]? with
    | none =>
      rw [List.filterMap_cons, List.filterMap_cons, e, r.none_of e]
      exact ih
    | some d =>
      obtain ⟨v, q, w⟩ := r.get e
      rw [List.filterMap_cons, List.filterMap_cons, e, q]
      exact .cons w ih
def tSl3 (K : PySem.W.Frag) (te : TE) (tl th ts : TO) : TE := fun σ H Q => te σ H fun x H1 => tl σ H1 fun lo H2 => th σ H2 fun hi H3 => ts σ H3 fun st H4 => ∃ a xs, x = .ref a ∧ SqL K H4 a xs ∧ st ≠ some 0 ∧ (pickD xs lo hi st).length ≤ sizeLine ∧
  ∀ p, H4 p = none → Q (.ref p) (upd H4 p (.lst (pickD xs lo hi st)))
theorem pe_slice3 {te : TE} {lo hi : Option Expr} {st : Expr} {tl th ts : TO} (he : PE X a te) (hl : PO X lo tl) (hu : PO X hi th) (hst : PO X (some st) ts) : PE X (.Subscript a (.Slice lo hi (some st) p2) pos) (tSl3 X.K te tl th ts) := by
  constructor
  intro pins s σ H Q I h
  apply Subscript_
  apply thn (he.run pins s σ H _ I h)
  rintro v s1 ⟨x, H1, I1, r1, q1⟩
  apply wpAny_Slice
  apply thn (hl.run pins s1 σ H1 _ I1 q1)
  rintro vl s2 ⟨l, H2, I2, pl, q2⟩
  apply thn (hu.run pins s2 σ H2 _ I2 q2)
  rintro vu s3 ⟨u, H3, I3, pu, q3⟩
  apply thn (hst.run pins s3 σ H3 _ I3 q3)
  rintro vt s4 ⟨tt, H4, I4, pt, aa, xs, ex, hx, h0, hz, q4⟩
  subst ex
  cases r1
  have I5 : L2.Inv X pins σ H4 { s4 with heap := s4.heap.push { cls := .type "slice", data := .fields #[vl, vu, vt] } } := I4.kept (t' := s4.toks) fun b ob q => Heap.get?_push_of_some _ q
  obtain ⟨its, r, ht, hzl⟩ := I5.list hx
  have hlen := r.length
  have ep : slicePick its.toArray l u tt = (pickD its l u tt).toArray := by
    unfold slicePick pickD
    simp only [List.size_toArray, List.getElem?_toArray]
  have go : wpAny (model X.prog X.w) X.A (getItem (.ref aa) (.ref s4.heap.objs.size)) (EP X pins σ Q) X.xe { s4 with heap := s4.heap.push { cls := .type "slice", data := .fields #[vl, vu, vt] } } := by
    apply wpAny_getItem_list_slice ht.isList (Heap.IsSliceOf.new ..) pl pu pt h0 _ (by rw [List.size_toArray]; omega)
    rw [ep]
    refine ⟨.ref _, _, I5.laid (t' := s4.toks) (o := .lst (pickD xs l u tt)) (fun b ob q => Heap.get?_push_of_some _ q) (Nat.le_refl _) ?_, rfl, q4 _ (I5.hok.fresh (Nat.le_refl _))⟩
    refine ⟨hz, _, 0, ?_, Heap.get?_push_size _ rfl⟩
    have := Vals.picks r (sliceRange (sliceBounds l u tt xs.length).1 (sliceBounds l u tt xs.length).2.1 (sliceBounds l u tt xs.length).2.2)
    unfold pickD
    rw [← hlen]
    exact this
  exact tail_any (ops := [.ref aa, .ref s4.heap.objs.size]) ht.isList.typeIs slot_list_getitem.lookup go (by with_unfolding_all rfl)
def cSl3 (f : G) (l u t : Gp) : G := fun ρ S => match f ρ S with
  | none => none
  | some (x, S1) => match l ρ S1 with
    | none => none
    | some (lo, S2) => match u ρ S2 with
      | none => none
      | some (hi, S3) => match t ρ S3 with
        | none => none
        | some (st, S4) => match lsOf S4 x with
          | none => none
          | some xs => if st ≠ some 0 ∧ (pickD xs lo hi st).length ≤ sizeLine then some (.lst (pickD xs lo hi st), S4) else none
theorem de_slice3 {lo hi : Option Expr} {st : Expr} {l u t : Gp} (ha : DE X a f) (hl : DO X lo l) (hu : DO X hi u) (ht : DO X (some st) t) : DE X (.Subscript a (.Slice lo hi (some st) p2) pos) (cSl3 f l u t) := by
  refine PE.imp (pe_slice3 ha hl hu ht) ?_
  rintro σ H Q ⟨rs, ι, ρ, S, d, S', R, En, hf, k⟩
  unfold cSl3 at hf
  split at hf
  · cases hf
  · rename_i x S1 e1
    split at hf
    · cases hf
    · rename_i o1 S2 e2
      split at hf
      · cases hf
      · rename_i o2 S3 e3
        split at hf
        · cases hf
        · rename_i o3 S4 e4
          split at hf
          · cases hf
          · rename_i xs e5
            split at hf
            · rename_i hc
              cases hf
              refine tE.go R En e1 fun ι1 H1 v E1 R1 En1 a1 => ?_
              refine ⟨rs, ι1, ρ, S1, o1, S2, R1, En1, e2, fun ι2 H2 E2 R2 => ?_⟩
              have En2 := En1.mono R1 E2
              refine ⟨rs, ι2, ρ, S2, o2, _, R2, En2, e3, fun ι3 H3 E3 R3 => ?_⟩
              refine ⟨rs, ι3, ρ, S3, o3, _, R3, En2.mono R2 E3, e4, fun ι4 H4 E4 R4 => ?_⟩
              obtain ⟨p, vs, rfl, hq, z, l⟩ := lsOf_at R4 (((a1.mono R1 E2).mono R2 E3).mono R3 E4) e5
              have lp : AtL ⟨X.K, rs⟩ ι4 S'.length H4 (pickD xs o1 o2 o3) (pickD vs o1 o2 o3) := by
                unfold pickD
                rw [l.length]
                exact l.picks _
              have zl : (pickD vs o1 o2 o3).length ≤ sizeLine := by rw [← lp.length]; exact hc.2
              exact ⟨p, vs, rfl, hq, hc.1, zl, fun p hp => (k.from (((E1.trans E2).trans E3).trans E4)).lst R4 hp zl lp⟩
            · cases hf

/-! ### a star in a display -/
def cStar (f : G) (r : Gs) : Gs := fun ρ S => match f ρ S with
  | none => none
  | some (x, S1) => match sqOf S1 x with
    | none => none
    | some xs => match r ρ S1 with
      | none => none
      | some (ys, S2) => some (xs ++ ys, S2)
theorem da_star {sp : Pos} (he : DE X e f) (hr : DA X es fs) (hs : starEach (.Starred e sp :: es) X.env = (true, eval e X.env) :: starEach es X.env := by rfl) : DA X (.Starred e sp :: es) (cStar f fs) := by
  refine PA.imp (StX.pa_star he hr hs) ?_
  rintro σ H Q ⟨rs, ι, ρ, S, d, S', R, En, hf, k⟩
  unfold cStar at hf
  split at hf
  · cases hf
  · rename_i x S1 e1
    split at hf
    · cases hf
    · rename_i xs e2
      split at hf
      · cases hf
      · rename_i ys S2 e3
        cases hf
        refine tE.go R En e1 fun ι1 H1 v E1 R1 En1 a1 => ?_
        obtain ⟨p, vs, rfl, hq, z, l⟩ := sqOf_at R1 a1 e2
        exact ⟨p, vs, rfl, hq.symm, tL.go R1 En1 e3 fun ι2 H2 ws E2 R2 En2 a2 => k _ _ _ (E1.trans E2) R2 ((l.mono R1 E2).append a2)⟩

/-! ### texts put together -/
def cFmt (f : G) : G := fun ρ S => match f ρ S with
  | some (.str y, S1) => if y.length ≤ sizeLine then some (.str y, S1) else none
  | some (.int i, S1) => if i.natAbs.log2 < 1920 then some (.str (toString i), S1) else none
  | _ => none
theorem de_fmt (he : DE X e f) : DE X (.FormattedValue e (-1) none pos) (cFmt f) := by
  refine PE.imp (pe_fmt he) ?_
  rintro σ H Q ⟨rs, ι, ρ, S, d, S', R, En, hf, k⟩
  unfold cFmt at hf
  split at hf
  · rename_i y S1 e1
    split at hf
    · rename_i hz
      cases hf
      refine tE.go R En e1 fun ι1 H1 v E1 R1 En1 a1 => ?_
      cases a1
      exact .inl ⟨_, rfl, hz, k _ _ _ E1 R1 (.str _)⟩
    · cases hf
  · rename_i i S1 e1
    split at hf
    · rename_i hz
      cases hf
      refine tE.go R En e1 fun ι1 H1 v E1 R1 En1 a1 => ?_
      cases a1
      exact .inr ⟨_, rfl, hz, k _ _ _ E1 R1 (.str _)⟩
    · cases hf
  · cases hf
inductive DJ (X : Cx) : List Expr → List G → Prop where
  | nil : DJ X [] []
  | cons {e : Expr} {f : G} {es : List Expr} {fs : List G} (h : DE X e f) (r : DJ X es fs) : DJ X (e :: es) (f :: fs)
theorem DJ.pj {es : List Expr} {fs : List G} (h : DJ X es fs) : PJ X es (fs.map (tE X.K)) := by
  induction h with
  | nil => exact .nil
  | cons h r ih => exact .cons h ih
def cJs : List G → Str → Rho → Sto → Option (Str × Sto)
  | [], acc, _, S => some (acc, S)
  | f :: fs, acc, ρ, S => match f ρ S with
    | some (.str y, S1) => if (acc ++ y).length ≤ sizeLine then cJs fs (acc ++ y) ρ S1 else none
    | _ => none
def cJoined (fs : List G) : G := fun ρ S => match cJs fs Str.empty ρ S with
  | some (y, S1) => some (.str y, S1)
  | none => none
theorem cJs_of {K : PySem.W.Frag} {rs : Addr → Prop} : ∀ (fs : List G) (acc : Str) (ι : Nat → Addr) (ρ : Rho) (S S' : Sto) (y : Str) (σ : L2.St) (H : Hp) (Q : Str → Hp → Prop), Rel ⟨K, rs⟩ ι S H → EnvAt ⟨K, rs⟩ ι S.length H ρ σ → cJs fs acc ρ S = some (y, S') →
    (∀ ι' H', Ext ι S.length H ι' S'.length H' → Rel ⟨K, rs⟩ ι' S' H' → Q y H') → tJs (fs.map (tE K)) acc σ H Q
  | [], acc, ι, ρ, S, S', y, σ, H, Q, R, En, hf, k => by
    simp only [cJs] at hf
    cases hf
    exact k _ _ Ext.refl R
  | f :: fs, acc, ι, ρ, S, S', y, σ, H, Q, R, En, hf, k => by
    simp only [cJs] at hf
    split at hf
    · rename_i z S1 e1
      split at hf
      · rename_i hz
        refine tE.go R En e1 fun ι1 H1 v E1 R1 En1 a1 => ?_
        cases a1
        exact ⟨_, rfl, hz, cJs_of fs _ ι1 ρ S1 S' y σ H1 Q R1 En1 hf fun ι' H' E' R' => k ι' H' (E1.trans E') R'⟩
      · cases hf
    · cases hf
theorem de_joined {v1 v2 : Expr} {rest : List Expr} {fs : List G} (h : DJ X (v1 :: v2 :: rest) fs) : DE X (.JoinedStr (v1 :: v2 :: rest) pos) (cJoined fs) := by
  refine PE.imp (pe_joined h.pj) ?_
  rintro σ H Q ⟨rs, ι, ρ, S, d, S', R, En, hf, k⟩
  unfold cJoined at hf
  split at hf
  · rename_i y S1 e1
    cases hf
    exact cJs_of fs Str.empty ι ρ S _ y σ H _ R En e1 fun ι' H' E' R' => k ι' H' _ E' R' (.str y)
  · cases hf

/-! ### methods of lists and texts -/
abbrev OpM := Sto → D → List D → Option (D × Sto)
def cMeth (kd : Sto → D → Bool) (op : OpM) (f : G) (r : Gs) : G := fun ρ S => match f ρ S with
  | none => none
  | some (x, S1) => if kd S1 x = true then (match r ρ S1 with
    | none => none
    | some (ys, S2) => op S2 x ys) else none
def KindIs (K : PySem.W.Frag) (T : String) (kd : Sto → D → Bool) : Prop := ∀ (rs : Addr → Prop) (ι : Nat → Addr) (S : Sto) (H : Hp) (x : D) (v : V), Rel ⟨K, rs⟩ ι S H → At ⟨K, rs⟩ ι S.length H x v → kd S x = true → tyV K T v H
def ServesM (K : PySem.W.Frag) (r : V → List V → Hp → VK → Prop) (op : OpM) : Prop := ∀ (rs : Addr → Prop) (ι : Nat → Addr) (S : Sto) (H : Hp) (x : D) (v : V) (ys : List D) (vs : List V) (d : D) (S' : Sto) (Q : VK), Rel ⟨K, rs⟩ ι S H → At ⟨K, rs⟩ ι S.length H x v → AtL ⟨K, rs⟩ ι S.length H ys vs → op S x ys = some (d, S') → Post ⟨K, rs⟩ ι S H S' d Q → r v vs H Q
theorem cMeth_of {K : PySem.W.Frag} {T : String} {kd : Sto → D → Bool} {r : V → List V → Hp → VK → Prop} {op : OpM} (hk : KindIs K T kd) (hs : ServesM K r op) : ∀ σ H Q, tE K (cMeth kd op f fs) σ H Q → tBM K T r (tE K f) (tL K fs) σ H Q := by
  rintro σ H Q ⟨rs, ι, ρ, S, d, S', R, En, hf, k⟩
  unfold cMeth at hf
  split at hf
  · cases hf
  · rename_i x S1 e1
    split at hf
    · rename_i hkd
      split at hf
      · cases hf
      · rename_i ys S2 e2
        refine tE.go R En e1 fun ι1 H1 v E1 R1 En1 a1 => ⟨hk _ _ _ _ _ _ R1 a1 hkd, ?_⟩
        exact tL.go R1 En1 e2 fun ι2 H2 vs E2 R2 En2 a2 => hs _ _ _ _ _ _ _ _ _ _ _ R2 (a1.mono R1 E2) a2 hf (k.from (E1.trans E2))
    · cases hf
def isL (S : Sto) (x : D) : Bool := (lsOf S x).isSome
theorem isL_ok : KindIs X.K "list" isL := by
  intro rs ι S H x v R a h
  unfold isL at h
  obtain ⟨xs, e⟩ := Option.isSome_iff_exists.mp h
  obtain ⟨p, vs, rfl, hq, _, _⟩ := lsOf_at R a e
  exact .inl ⟨rfl, vs, hq⟩
def appendO : OpM := fun S x ys => match x, ys with
  | .ref n, [y] => match S[n]? with
    | some (.lst xs) => if xs.length < sizeLine then some (.non, S.set n (.lst (xs ++ [y]))) else none
    | _ => none
  | _, _ => none
theorem Post.wrote {K : KR} {ι : Nat → Addr} {S : Sto} {H : Hp} {n : Nat} {o : HO} {u : MO} {d : D} {v : V} {Q : VK} (k : Post K ι S H (S.set n u) d Q) (R : Rel K ι S H) (hn : n < S.length) (hu : MAt K ι S.length (upd H (ι n) o) (ι n) u) (ha : At K ι S.length (upd H (ι n) o) d v) : Q v (upd H (ι n) o) := by
  refine k ι _ v ?_ (R.written hn hu) ?_
  · rw [List.length_set]; exact Ext.written hn
  · rw [List.length_set]; exact ha
theorem appendO_ok : ServesM X.K rAppend appendO := by
  intro rs ι S H x v ys vs d S' Q R a1 a2 e k
  unfold appendO at e
  split at e
  · rename_i n y
    split at e
    · rename_i xs e1
      split at e
      · rename_i hz
        cases e
        cases a1 with
        | ref hn =>
          cases a2 with
          | cons h t =>
            cases t
            obtain ⟨ws, q, l, z⟩ := R.obj n _ e1
            have hl := l.length
            refine ⟨_, ws, _, rfl, rfl, q, by omega, k.wrote R hn ⟨_, upd_same, (l.append (.cons h .nil)).mono R (Ext.written hn), by rw [List.length_append, List.length_singleton]; omega⟩ .non⟩
      · cases e
    · cases e
  · cases e
theorem de_append {apos cpos : Pos} (ho : DE X o f) (ha : DA X (e :: es) fs) (hbase : attributeBase o "append" X.env (eval o X.env) = eval o X.env := by rfl)
    (hfew : ((backTo cpos (starEach (e :: es) X.env)).all (fun x => !x.1) && (backToKw cpos (keywordEach [] X.env)).all (fun x => x.1.isSome) && decide ((e :: es).length + ([] : List Keyword).length + (if ([] : List Keyword).isEmpty then 0 else 1) < 30)) = true := by rfl)
    (hline : (apos.endLine == cpos.line) = true := by rfl) (hs : starEach (e :: es) X.env = (false, eval e X.env) :: starEach es X.env := by rfl) (hplain : (backTo cpos (starEach es X.env)).any (·.1) = false := by rfl) :
    DE X (.Call (.Attribute o "append" apos) (e :: es) [] cpos) (cMeth isL appendO f fs) :=
  PE.imp (pe_bm PySem.F.plainAttrs_list PySem.F.slot_list_append PySem.F.type_list_append mt_append ho ha hbase hfew hline hs hplain) (cMeth_of isL_ok appendO_ok)
/-- extend by a list or a tuple -/
def rExtA (K : PySem.W.Frag) : V → List V → Hp → VK → Prop := fun x vs H Q => ∃ l b xs zs, x = .ref l ∧ vs = [.ref b] ∧ H l = some (.lst xs) ∧ (H b = some (.lst zs) ∨ SqT K H b zs) ∧ xs.length + zs.length ≤ sizeLine ∧ Q .non (upd H l (.lst (xs ++ zs)))
theorem ext_tup (l : Addr) (items : Array Value) (n : Nat) (b : Addr) (items2 : Array Value) (n2 : Nat) (dd : Option Addr) (sl : Array (Option Value)) (hs0 : ¬(!items.isEmpty && Builtin.List.listTooLong (items.size + items2.size)) = true) (hs1 : items.size ≤ sizeLine) (hs2 : items.size + items2.size ≤ sizeLine + 1) :
    Meets (Builtin.«list.extend» ⟨[.ref l, .ref b], []⟩) (fun _ R s => s.heap.get? l = some { cls := .type "list", dict := none, data := .seq items n, slots := #[] } ∧ s.heap.get? b = some { cls := .type "tuple", dict := dd, data := .seq items2 n2, slots := sl } ∧
      R (.ok (.ret Value.none)) { s with heap := s.heap.update l (Obj.mapSeq fun x => x ++ items2), toks := s.toks }) :=
  .of_wp fun prog w A R s h => by
    obtain ⟨hp, g, d, tk, os⟩ := s
    obtain ⟨hl, hb, h⟩ := h
    have f1 := PySem.AutoSeq1.idx_int
    have f2 := PySem.AutoSeq1.sub_tuple_tuple
    have f3 := PySem.AutoSeq1.sub_list_list
    have f4 := PySem.AutoSeq1.sub_tuple_list
    have f5 := PySem.AutoSeq1.sub_list_tuple
    have hz' : (items ++ items2).size ≤ sizeLine + 1 := by rw [Array.size_append]; omega
    wp_walk using (wpAny_updateSeq hl rfl (hz := hs1) (_hz' := hz')), PySem.AutoSeq1.wpAny_loadPart' hl, PySem.AutoSeq1.wpAny_loadPart' hb
    exact ⟨_, rfl, h⟩
theorem mt_extA : MtM X "list.extend" (rExtA X.K) := by
  intro pins s σ H x vs v us Q I rx rv h
  obtain ⟨l, b, xs, zs, rfl, rfl, hH, hB, hz, q⟩ := h
  rcases hB with hB | hB
  · exact mt_extend pins s σ H _ _ v us Q I rx rv ⟨l, b, xs, zs, rfl, rfl, hH, hB, hz, q⟩
  · cases rx
    obtain ⟨u, rfl, ru⟩ := Vals.one rv
    cases ru
    obtain ⟨z, its, n, r, hl, e⟩ := I.lstM hH
    obtain ⟨its2, r2, ⟨o2, e2, hc2, n2, hd2⟩, z2⟩ := I.tuple hB
    have hl2 := r2.length
    have hsz : its.toArray.size + its2.toArray.size ≤ sizeLine := by rw [List.size_toArray, List.size_toArray]; omega
    have hlong : ¬ (!its.toArray.isEmpty && Builtin.List.listTooLong (its.toArray.size + its2.toArray.size)) = true := by
      rw [notLongL hsz, Bool.and_false]
      exact Bool.false_ne_true
    obtain ⟨c2, d2, t2, s2⟩ := o2
    dsimp only at hc2 hd2
    subst hc2 hd2
    refine call_meets PySem.F.slot_list_extend ⟨_, e, rfl⟩ PySem.F.entry_list_extend (PySem.F.args_list_extend_2 _ _) (ext_tup l its.toArray n b its2.toArray n2 _ _ hlong (by rw [List.size_toArray]; omega) (by omega)) ⟨e, e2, ?_⟩
    exact ⟨.non, _, I.lset (its' := its ++ its2) hH e (by simp) (r.append r2) (by rw [List.length_append]; omega), rfl, q⟩
def extO : OpM := fun S x ys => match x, ys with
  | .ref n, [.tup zs] => match S[n]? with
    | some (.lst xs) => if xs.length + zs.length ≤ sizeLine then some (.non, S.set n (.lst (xs ++ zs))) else none
    | _ => none
  | .ref n, [y] => match S[n]?, lmOf S y with
    | some (.lst xs), some zs => if xs.length + zs.length ≤ sizeLine then some (.non, S.set n (.lst (xs ++ zs))) else none
    | _, _ => none
  | _, _ => none
theorem extO_ok : ServesM X.K (rExtA X.K) extO := by
  intro rs ι S H x v ys vs d S' Q R a1 a2 e k
  have fin : ∀ {n : Nat} {xs zs : List D} {p : Addr} {wz : List V}, n < S.length → S[n]? = some (.lst xs) → xs.length + zs.length ≤ sizeLine → AtL ⟨X.K, rs⟩ ι S.length H zs wz → (H p = some (.lst wz) ∨ SqT X.K H p wz) →
      Post ⟨X.K, rs⟩ ι S H (S.set n (.lst (xs ++ zs))) .non Q → rExtA X.K (.ref (ι n)) [.ref p] H Q := by
    intro n xs zs p wz hn e1 hz l2 hp k
    obtain ⟨ws, q, l, z⟩ := R.obj n _ e1
    have h1 := l.length
    have h2 := l2.length
    exact ⟨_, p, ws, wz, rfl, rfl, q, hp, by omega, k.wrote R hn ⟨_, upd_same, (l.append l2).mono R (Ext.written hn), by rw [List.length_append]; omega⟩ .non⟩
  unfold extO at e
  split at e
  · split at e
    · rename_i xs e1
      split at e
      · rename_i hz
        cases e
        cases a1 with
        | ref hn =>
          cases a2 with
          | cons h t =>
            cases t
            cases h with
            | tup q z l => exact fin hn e1 hz l (.inr q) k
      · cases e
    · cases e
  · split at e
    · rename_i xs zs e1 e2
      split at e
      · rename_i hz
        cases e
        cases a1 with
        | ref hn =>
          cases a2 with
          | cons h t =>
            cases t
            obtain ⟨p, wz, rfl, q, z, l⟩ := lmOf_at R h e2
            exact fin hn e1 hz l (.inl q) k
      · cases e
    · cases e
  · cases e
theorem de_extend {apos cpos : Pos} (ho : DE X o f) (ha : DA X (e :: es) fs) (hbase : attributeBase o "extend" X.env (eval o X.env) = eval o X.env := by rfl)
    (hfew : ((backTo cpos (starEach (e :: es) X.env)).all (fun x => !x.1) && (backToKw cpos (keywordEach [] X.env)).all (fun x => x.1.isSome) && decide ((e :: es).length + ([] : List Keyword).length + (if ([] : List Keyword).isEmpty then 0 else 1) < 30)) = true := by rfl)
    (hline : (apos.endLine == cpos.line) = true := by rfl) (hs : starEach (e :: es) X.env = (false, eval e X.env) :: starEach es X.env := by rfl) (hplain : (backTo cpos (starEach es X.env)).any (·.1) = false := by rfl) :
    DE X (.Call (.Attribute o "extend" apos) (e :: es) [] cpos) (cMeth isL extO f fs) :=
  PE.imp (pe_bm PySem.F.plainAttrs_list PySem.F.slot_list_extend PySem.F.type_list_extend mt_extA ho ha hbase hfew hline hs hplain) (cMeth_of isL_ok extO_ok)
def strsD : List D → Option (List Str)
  | [] => some []
  | .str i :: r => (strsD r).map (i :: ·)
  | _ :: _ => none
theorem strsD_at {K : KR} {ι : Nat → Addr} {N : Nat} {H : Hp} : ∀ {ds : List D} {vs : List V} {ns : List Str}, AtL K ι N H ds vs → strsD ds = some ns → vs = ns.map V.str
  | _, _, _, .nil, e => by simp only [strsD] at e; cases e; rfl
  | _, _, _, .cons (d := .str i) h t, e => by
    simp only [strsD] at e
    obtain ⟨r, e1, e2⟩ := Option.map_eq_some_iff.mp e
    subst e2
    cases h
    rw [strsD_at t e1]
    rfl
  | _, _, _, .cons (d := .non) _ _, e => by simp only [strsD] at e; cases e
  | _, _, _, .cons (d := .bl _) _ _, e => by simp only [strsD] at e; cases e
  | _, _, _, .cons (d := .int _) _ _, e => by simp only [strsD] at e; cases e
  | _, _, _, .cons (d := .tup _) _ _, e => by simp only [strsD] at e; cases e
  | _, _, _, .cons (d := .lst _) _ _, e => by simp only [strsD] at e; cases e
  | _, _, _, .cons (d := .scr _) _ _, e => by simp only [strsD] at e; cases e
  | _, _, _, .cons (d := .ref _) _ _, e => by simp only [strsD] at e; cases e
def isS (_ : Sto) (x : D) : Bool := match x with
  | .str _ => true
  | _ => false
theorem isS_ok : KindIs X.K "str" isS := by
  intro rs ι S H x v R a h
  unfold isS at h
  split at h
  · cases a; exact rfl
  · cases h
def joinO : OpM := fun S x ys => match x, ys with
  | .str a, [y] => match sqOf S y with
    | some zs => match strsD zs with
      | some ss => if (ss.map (·.length)).sum + ss.length * a.length ≤ 16777216 then some (.str (Txt.join a ss), S) else none
      | none => none
    | none => none
  | _, _ => none
theorem joinO_ok : ServesM X.K (fun x xs H Q => ∃ a p, ∃ ys : List Str, x = .str a ∧ xs = [.ref p] ∧ (SqL X.K H p (ys.map V.str) ∨ SqT X.K H p (ys.map V.str)) ∧
    (ys.map (·.length)).sum + ys.length * a.length ≤ 16777216 ∧ Q (.str (Txt.join a ys)) H) joinO := by
  intro rs ι S H x v ys vs d S' Q R a1 a2 e k
  unfold joinO at e
  split at e
  · split at e
    · rename_i zs e1
      split at e
      · rename_i ss e2
        split at e
        · rename_i hz
          cases e
          cases a1
          cases a2 with
          | cons h t =>
            cases t
            obtain ⟨p, ws, rfl, hq, z, l⟩ := sqOf_at R h e1
            rw [strsD_at l e2] at hq
            exact ⟨_, p, ss, rfl, rfl, hq, hz, Post.same k R (.str _)⟩
        · cases e
      · cases e
    · cases e
  · cases e
theorem de_join {apos cpos : Pos} (ho : DE X o f) (ha : DA X (e :: es) fs) (hbase : attributeBase o "join" X.env (eval o X.env) = eval o X.env := by rfl)
    (hfew : ((backTo cpos (starEach (e :: es) X.env)).all (fun x => !x.1) && (backToKw cpos (keywordEach [] X.env)).all (fun x => x.1.isSome) && decide ((e :: es).length + ([] : List Keyword).length + (if ([] : List Keyword).isEmpty then 0 else 1) < 30)) = true := by rfl)
    (hline : (apos.endLine == cpos.line) = true := by rfl) (hs : starEach (e :: es) X.env = (false, eval e X.env) :: starEach es X.env := by rfl) (hplain : (backTo cpos (starEach es X.env)).any (·.1) = false := by rfl) :
    DE X (.Call (.Attribute o "join" apos) (e :: es) [] cpos) (cMeth isS joinO f fs) :=
  PE.imp (pe_bm PySem.F.plainAttrs_str PySem.F.slot_str_join PySem.F.type_str_join mt_join ho ha hbase hfew hline hs hplain) (cMeth_of isS_ok joinO_ok)
end
end FS
set_option Elab.async false
set_option linter.all false
set_option maxRecDepth 100000
set_option maxHeartbeats 4000000
namespace FS
open PySem PySem.Spec PyProof.Rows L2

def keyD : D → Option Key
  | .int i => some (.inl i)
  | .str x => some (.inr x)
  | _ => none
def valD (kvs : List (Key × D)) (k : Key) : Option D := (kvs.find? fun kv => decide (kv.1 = k)).map (·.2)
def putD (kvs : List (Key × D)) (k : Key) (v : D) : List (Key × D) :=
  if (kvs.any fun kv => decide (kv.1 = k)) = true then kvs.map (fun kv => if kv.1 = k then (kv.1, v) else kv) else kvs ++ [(k, v)]
section
variable {K : KR} {ι : Nat → Addr} {S : Sto} {N : Nat} {H : Hp}
theorem keyD_at {d : D} {v : V} {k : Key} (a : At K ι N H d v) (e : keyD d = some k) : v = kV k := by
  cases a <;> simp only [keyD] at e <;> first
    | (cases e; rfl)
    | cases e
theorem KAt.val {k : Key} : ∀ {kvs : List (Key × D)} {kws : List (Key × V)}, KAt K ι N H kvs kws → (valD kvs k = none → valV kws k = none) ∧ ∀ d, valD kvs k = some d → ∃ v, valV kws k = some v ∧ At K ι N H d v
  | _, _, .nil => ⟨fun _ => rfl, fun _ e => by simp [valD] at e⟩
  | _, _, .cons (a := p) (b := q) h t => by
    have ih := KAt.val (k := k) t
    by_cases e : p.1 = k
    · have e2 : q.1 = k := by rw [← h.1]; exact e
      rw [valV_pos e2]
      refine ⟨fun z => ?_, fun d z => ?_⟩
      · simp [valD, List.find?_cons, e] at z
      · simp [valD, List.find?_cons, e] at z
        rw [← z]
        exact ⟨_, rfl, h.2⟩
    · have e2 : ¬ q.1 = k := by rw [← h.1]; exact e
      rw [valV_neg e2]
      have q : ∀ r : List (Key × D), valD (p :: r) k = valD r k := fun r => by simp [valD, List.find?_cons, e]
      rw [q]
      exact ih
theorem KAt.length : ∀ {kvs : List (Key × D)} {kws : List (Key × V)}, KAt K ι N H kvs kws → kvs.length = kws.length
  | _, _, .nil => rfl
  | _, _, .cons _ t => by simp [KAt.length t]
theorem KAt.anyK {k : Key} : ∀ {kvs : List (Key × D)} {kws : List (Key × V)}, KAt K ι N H kvs kws → (kvs.any fun kv => decide (kv.1 = k)) = (kws.any fun kv => decide (kv.1 = k))
  | _, _, .nil => rfl
  | _, _, .cons (a := p) (b := q) h t => by
    rw [List.any_cons, List.any_cons, KAt.anyK t, h.1]
theorem KAt.mapK {k : Key} {d : D} {v : V} (a : At K ι N H d v) : ∀ {kvs : List (Key × D)} {kws : List (Key × V)}, KAt K ι N H kvs kws → KAt K ι N H (kvs.map fun kv => if kv.1 = k then (kv.1, d) else kv) (kws.map fun kv => if kv.1 = k then (kv.1, v) else kv)
  | _, _, .nil => .nil
  | _, _, .cons (a := p) (b := q) h t => by
    refine .cons ?_ (KAt.mapK a t)
    dsimp only
    by_cases e : p.1 = k
    · rw [if_pos e, if_pos (by rw [← h.1]; exact e)]
      exact ⟨h.1, a⟩
    · rw [if_neg e, if_neg (by rw [← h.1]; exact e)]
      exact h
theorem KAt.app : ∀ {kvs ls : List (Key × D)} {kws lws : List (Key × V)}, KAt K ι N H kvs kws → KAt K ι N H ls lws → KAt K ι N H (kvs ++ ls) (kws ++ lws)
  | _, _, _, _, .nil, s => s
  | _, _, _, _, .cons h t, s => .cons h (KAt.app t s)
theorem KAt.put {k : Key} {d : D} {v : V} {kvs : List (Key × D)} {kws : List (Key × V)} (h : KAt K ι N H kvs kws) (a : At K ι N H d v) : KAt K ι N H (putD kvs k d) (putK kws k v) := by
  unfold putD putK
  rw [h.anyK (k := k)]
  split
  · exact h.mapK a
  · exact h.app (.cons ⟨rfl, a⟩ .nil)
theorem length_putD (kvs : List (Key × D)) (k : Key) (d : D) : (putD kvs k d).length ≤ kvs.length + 1 := by
  unfold putD
  split <;> simp
end
section
variable {k : PySem.W.Frag} {rs : Addr → Prop} {ι : Nat → Addr} {N : Nat} {H : Hp} {p : Addr}
mutual
theorem At.grown : ∀ {d : D} {v : V}, At ⟨k, fun a => rs a ∨ a = p⟩ ι N H d v → At ⟨k, rs⟩ (bump ι N p) (N + 1) H d v
  | _, _, .non => .non
  | _, _, .bl b => .bl b
  | _, _, .int i => .int i
  | _, _, .str x => .str x
  | _, _, .tup h z l => .tup h z (AtL.grown l)
  | _, _, .lst h z l => .lst ⟨h.1, fun m hm e => by
      by_cases hk : m < N
      · rw [bump_lt hk] at e; exact h.2.1 m hk e
      · rw [show m = N by omega, bump_at] at e; exact h.2.2 (Or.inr e.symm), fun z => h.2.2 (Or.inl z)⟩ z (AtL.grown l)
  | _, _, .scr h z l => .scr h z (AtL.grown l)
  | _, _, .ref h => by
    have q : At ⟨k, rs⟩ (bump ι N p) (N + 1) H _ _ := .ref (Nat.lt_succ_of_lt h)
    rw [bump_lt h] at q
    exact q
theorem AtL.grown : ∀ {ds : List D} {vs : List V}, AtL ⟨k, fun a => rs a ∨ a = p⟩ ι N H ds vs → AtL ⟨k, rs⟩ (bump ι N p) (N + 1) H ds vs
  | _, _, .nil => .nil
  | _, _, .cons h t => .cons (At.grown h) (AtL.grown t)
end
end
section
variable {X : Cx} {o i e d2 value : Expr} {pos pos' : Pos} {f g h : G}
/-- d[k] -/
def cDget (f g : G) : G := fun ρ S => match f ρ S with
  | some (.ref n, S1) => match g ρ S1 with
    | some (y, S2) => match S2[n]?, keyD y with
      | some (.dct kvs), some k => match valD kvs k with
        | some d => some (d, S2)
        | none => none
      | _, _ => none
    | none => none
  | _ => none
theorem de_dget {k : Nat} (hr : Room k X.A) (ho : DE X o f) (hi : DE X i g) (hs : NoSl i := by intro _ _; rfl) : DE X (.Subscript o i pos) (cDget f g) := by
  refine PE.imp (pe_dget (hu_of hr) ho hi hs) ?_
  rintro σ H Q ⟨rs, ι, ρ, S, d, S', R, En, hf, k⟩
  unfold cDget at hf
  split at hf
  · rename_i n S1 e1
    split at hf
    · rename_i y S2 e2
      split at hf
      · rename_i kvs kk e3 e4
        split at hf
        · rename_i d1 e5
          cases hf
          refine tE.go R En e1 fun ι1 H1 v E1 R1 En1 a1 => ?_
          refine tE.go R1 En1 e2 fun ι2 H2 u E2 R2 En2 a2 => ?_
          cases a1 with
          | ref hn =>
            obtain ⟨kws, q, l, z⟩ := R2.obj n _ e3
            obtain ⟨w, q2, aw⟩ := l.val.2 _ e5
            rw [keyD_at a2 e4]
            refine ⟨_, w, rfl, ?_, k _ _ _ (E1.trans E2) R2 aw⟩
            rw [← E2.eqi n hn, ← q2]
            exact .k q
        · cases hf
      · cases hf
    · cases hf
  · cases hf
/-- d.get(k, x) -/
def cDget2 (f g h : G) : G := fun ρ S => match f ρ S with
  | some (.ref n, S1) => match S1[n]? with
    | some (.dct _) => match g ρ S1 with
      | some (y, S2) => match h ρ S2 with
        | some (z, S3) => match S3[n]?, keyD y with
          | some (.dct kvs), some k => some ((valD kvs k).getD z, S3)
          | _, _ => none
        | none => none
      | none => none
    | _ => none
  | _ => none
theorem de_dget2 {k : Nat} {apos cpos : Pos} (hr : Room k X.A) (ho : DE X o f) (he : DE X e g) (hf : DE X d2 h) (m : M2 X o "get" apos e d2 cpos := by exact ⟨rfl, rfl, rfl, rfl⟩) : DE X (.Call (.Attribute o "get" apos) [e, d2] [] cpos) (cDget2 f g h) := by
  refine PE.imp (pe_dget2 (hu_of hr) ho he hf m) ?_
  rintro σ H Q ⟨rs, ι, ρ, S, d, S', R, En, hf, k⟩
  unfold cDget2 at hf
  split at hf
  · rename_i n S1 e1
    split at hf
    · rename_i kvs0 e0
      split at hf
      · rename_i y S2 e2
        split at hf
        · rename_i z S3 e3
          split at hf
          · rename_i kvs kk e4 e5
            cases hf
            refine tE.go R En e1 fun ι1 H1 v E1 R1 En1 a1 => ?_
            cases a1 with
            | ref hn =>
              obtain ⟨kw0, q0, _, _⟩ := R1.obj n _ e0
              refine ⟨_, rfl, .inl ⟨kw0, .inl q0⟩, ?_⟩
              refine tE.go R1 En1 e2 fun ι2 H2 u E2 R2 En2 a2 => ?_
              refine tE.go R2 En2 e3 fun ι3 H3 w E3 R3 En3 a3 => ?_
              obtain ⟨kws, q, l, zz⟩ := R3.obj n _ e4
              rw [keyD_at a2 e5]
              have ea : ι1 n = ι3 n := ((E2.trans E3).eqi n hn).symm
              rw [ea]
              refine ⟨valV kws kk, .k q, k _ _ _ ((E1.trans E2).trans E3) R3 ?_⟩
              cases e6 : valD kvs kk with
              | none => rw [l.val.1 e6]; exact a3
              | some d6 =>
                obtain ⟨w6, q6, a6⟩ := l.val.2 _ e6
                rw [q6]
                exact a6
          · cases hf
        · cases hf
      · cases hf
    · cases hf
  · cases hf
/-- d[k] = v -/
def cDput (f g h : G) : B := fun ρ S => match h ρ S with
  | some (v, S1) => match f ρ S1 with
    | some (.ref n, S2) => match g ρ S2 with
      | some (y, S3) => match S3[n]?, keyD y with
        | some (.dct kvs), some k => if kvs.length < sizeLine then some (.nx, ρ, S3.set n (.dct (putD kvs k v))) else none
        | _, _ => none
      | none => none
    | _ => none
  | none => none
theorem ds_dput {k : Nat} (hr : Room k X.A) (ho : DE X o f) (hi : DE X i g) (hv : DE X value h) (hs : swapsWith value (some (.Subscript o i pos')) pos.line X.env = pure false := by rfl) : DS X (.Assign [.Subscript o i pos'] value pos) (cDput f g h) := by
  refine PS.imp (ps_dput (hu_of hr) ho hi hv hs) ?_
  rintro D' σ H ⟨rs, ι, ρ, S, fl, ρ', S', R, En, hf, k⟩
  unfold cDput at hf
  split at hf
  · rename_i v0 S1 e1
    split at hf
    · rename_i n S2 e2
      split at hf
      · rename_i y S3 e3
        split at hf
        · rename_i kvs kk e4 e5
          split at hf
          · rename_i hz
            cases hf
            refine tE.go R En e1 fun ι1 H1 v E1 R1 En1 a1 => ?_
            refine tE.go R1 En1 e2 fun ι2 H2 u E2 R2 En2 a2 => ?_
            refine tE.go R2 En2 e3 fun ι3 H3 w E3 R3 En3 a3 => ?_
            cases a2 with
            | ref hn =>
              obtain ⟨kws, q, l, z⟩ := R3.obj n _ e4
              have hl := l.length
              have hn3 : n < S3.length := Nat.lt_of_lt_of_le hn E3.le
              rw [keyD_at a3 e5, ← E3.eqi n hn]
              have av := (a1.mono R1 E2).mono R2 E3
              refine ⟨_, _, rfl, .k q (by omega), k ι3 σ _ ?_ ?_ ?_⟩
              · rw [List.length_set]; exact ((E1.trans E2).trans E3).trans (Ext.written hn3)
              · refine R3.written hn3 ⟨_, upd_same, ((l.put av).mono R3 (Ext.written hn3)), ?_⟩
                have := length_putK kws kk v
                omega
              · rw [List.length_set]; exact En3.mono R3 (Ext.written hn3)
          · cases hf
        · cases hf
      · cases hf
    · cases hf
  · cases hf
/-- {} -/
def cDnew : G := fun _ S => some (.ref S.length, S ++ [.dct []])
theorem de_dnew : DE X (.Dict [] [] pos) cDnew := by
  refine PE.imp pe_dnewK ?_
  rintro σ H Q ⟨rs, ι, ρ, S, d, S', R, En, hf, k⟩
  cases hf
  exact fun p hp => Post.newD k R hp (Nat.zero_le _) .nil
/-- {'a': x, ..} -/
def cPairs : List (G × G) → Rho → Sto → Option (List (Key × D) × Sto)
  | [], _, S => some ([], S)
  | (f, g) :: r, ρ, S => match f ρ S with
    | none => none
    | some (x, S1) => match g ρ S1 with
      | none => none
      | some (y, S2) => match keyD x, cPairs r ρ S2 with
        | some k, some (kvs, S3) => some ((k, y) :: kvs, S3)
        | _, _ => none
def mergeD (kvs : List (Key × D)) : List (Key × D) := kvs.foldl (fun acc kv => putD acc kv.1 kv.2) []
def cDisp (ps : List (G × G)) : G := fun ρ S => match cPairs ps ρ S with
  | some (kvs, S1) => if kvs.length ≤ 15 then some (.ref S1.length, S1 ++ [.dct (mergeD kvs)]) else none
  | none => none
inductive DP (X : Cx) (pos : Pos) : List (Option Expr) → List Expr → List (G × G) → Prop where
  | nil : DP X pos [] [] []
  | cons {k v : Expr} {ks : List (Option Expr)} {vs : List Expr} {f g : G} {ps : List (G × G)} (hk : DE X k f) (hv : DE X v g) (r : DP X pos ks vs ps) : DP X pos (some k :: ks) (v :: vs) ((f, g) :: ps)
theorem DP.pps {ks : List (Option Expr)} {vs : List Expr} {ps : List (G × G)} (h : DP X pos ks vs ps) : PPs X pos ks vs (ps.map fun p => (tE X.K p.1, tE X.K p.2)) := by
  induction h with
  | nil => exact pps_nil
  | cons hk hv r ih => exact pps_cons hk hv ih
theorem cPairs_of {K : PySem.W.Frag} {rs : Addr → Prop} : ∀ (ps : List (G × G)) (ι : Nat → Addr) (ρ : Rho) (S S' : Sto) (kvs : List (Key × D)) (σ : L2.St) (H : Hp) (Q : List (V × V) → Hp → Prop), Rel ⟨K, rs⟩ ι S H → EnvAt ⟨K, rs⟩ ι S.length H ρ σ → cPairs ps ρ S = some (kvs, S') →
    (∀ ι' H' kws, Ext ι S.length H ι' S'.length H' → Rel ⟨K, rs⟩ ι' S' H' → KAt ⟨K, rs⟩ ι' S'.length H' kvs kws → Q (kws.map fun kv => (kV kv.1, kv.2)) H') → tPairs (ps.map fun p => (tE K p.1, tE K p.2)) σ H Q
  | [], ι, ρ, S, S', kvs, σ, H, Q, R, En, hf, k => by
    simp only [cPairs] at hf
    cases hf
    exact k ι H [] Ext.refl R .nil
  | (f, g) :: ps, ι, ρ, S, S', kvs, σ, H, Q, R, En, hf, k => by
    simp only [cPairs] at hf
    split at hf
    · cases hf
    · rename_i x S1 e1
      split at hf
      · cases hf
      · rename_i y S2 e2
        split at hf
        · rename_i kk r S3 e3 e4
          cases hf
          refine tE.go R En e1 fun ι1 H1 v E1 R1 En1 a1 => ?_
          refine tE.go R1 En1 e2 fun ι2 H2 u E2 R2 En2 a2 => ?_
          refine cPairs_of ps ι2 ρ S2 _ _ σ H2 _ R2 En2 e4 fun ι3 H3 kws E3 R3 l => ?_
          have := k ι3 H3 ((kk, u) :: kws) ((E1.trans E2).trans E3) R3 (.cons ⟨rfl, a2.mono R2 E3⟩ l)
          rw [keyD_at a1 e3]
          exact this
        · cases hf
theorem KAt.merge {K : KR} {ι : Nat → Addr} {N : Nat} {H : Hp} : ∀ {kvs : List (Key × D)} {kws : List (Key × V)} {acc : List (Key × D)} {acw : List (Key × V)}, KAt K ι N H kvs kws → KAt K ι N H acc acw →
    KAt K ι N H (kvs.foldl (fun acc kv => putD acc kv.1 kv.2) acc) (mergeK acw kws)
  | _, _, _, _, .nil, h => h
  | _, _, acc, acw, .cons (a := p) (b := q) h t, ha => by
    have := KAt.merge t (ha.put (k := p.1) h.2)
    show KAt K ι N H (List.foldl _ (putD acc p.1 p.2) _) (mergeK (putK acw q.1 q.2) _)
    rw [← h.1]
    exact this
theorem de_disp {keys : List (Option Expr)} {values : List Expr} {ps : List (G × G)} (h : DP X pos keys values ps) (hall : keys.all (·.isSome) = true := by rfl) (hl : keys.length = values.length := by rfl) (h0 : keys ≠ [] := by exact fun z => by cases z) (h15 : keys.length ≤ 15 := by decide) :
    DE X (.Dict keys values pos) (cDisp ps) := by
  refine PE.imp (pe_disp h.pps hall hl h0 h15) ?_
  rintro σ H Q ⟨rs, ι, ρ, S, d, S', R, En, hf, k⟩
  unfold cDisp at hf
  split at hf
  · rename_i kvs S1 e1
    split at hf
    · rename_i hz
      cases hf
      intro p hp
      have hw : ∀ a o, H a = some o → (rs a ∨ a = p) → rs a := fun a o q z => z.elim id fun e => by rw [e, hp] at q; cases q
      have R0 : Rel ⟨X.K, fun a => rs a ∨ a = p⟩ ι S (upd H p (.dK [])) := by
        refine ⟨R.inj, fun n u e => ((R.obj n u e).wide hw).mono R (Ext.fresh hp) (by rw [upd_ne (R.ne_none hp n (List.getElem?_eq_some_iff.mp e).1)]), fun a h => ?_⟩
        rcases h with h | h
        · obtain ⟨u, q⟩ := R.res a h
          exact ⟨u, by rw [upd_ne (ne_of_none q hp)]; exact q⟩
        · exact ⟨_, by rw [h, upd_same]⟩
      have En0 : EnvAt ⟨X.K, fun a => rs a ∨ a = p⟩ ι S.length (upd H p (.dK [])) ρ σ := ⟨En.1, fun i d e => let ⟨v, q, a⟩ := En.2 i d e; ⟨v, q, (a.wide hw).mono R (Ext.fresh hp)⟩⟩
      refine cPairs_of ps ι ρ S S1 kvs σ _ _ R0 En0 e1 fun ι1 H1 kws E1 R1 l => ?_
      have np : ∀ m, m < S.length → ι m ≠ p := R.ne_none hp
      have hp1 : H1 p = some (.dK []) := E1.keep p _ upd_same np
      have nd1 : ∀ m, m < S1.length → ι1 m ≠ p := fun m hm z => by
        by_cases hk : m < S.length
        · rw [E1.eqi m hk] at z; exact np m hk z
        · have q := E1.new m (Nat.le_of_not_lt hk) hm
          rw [z, upd_same] at q; cases q
      have nt : ∀ vs, H1 p ≠ some (.tup vs) := fun vs z => by rw [hp1] at z; cases z
      have nf : ∀ a b, H1 p ≠ some (.frz a b) := fun a b z => by rw [hp1] at z; cases z
      have hl2 := l.length
      refine ⟨hp1, kws, rfl, by omega, ?_⟩
      -- the dict joins the store
      have hlen : (S1 ++ [MO.dct (mergeD kvs)]).length = S1.length + 1 := by simp
      have Ea : Ext ι S.length H (bump ι1 S1.length p) (S1.length + 1) (upd H1 p (.dK (mergeK [] kws))) := by
        refine ⟨Nat.le_succ_of_le E1.le, fun m hm => by rw [bump_lt (Nat.lt_of_lt_of_le hm E1.le)]; exact E1.eqi m hm, fun m h1 h2 => ?_, fun a o h hn => ?_, fun a o h => ?_⟩
        · by_cases hm : m < S1.length
          · rw [bump_lt hm]
            have q := E1.new m h1 hm
            rw [upd_ne (nd1 m hm)] at q
            exact q
          · rw [show m = S1.length by omega, bump_at]; exact hp
        · rw [upd_ne (ne_of_none h hp)]
          exact E1.keep a o (by rw [upd_ne (ne_of_none h hp)]; exact h) hn
        · rw [upd_ne (ne_of_none h hp)]
          exact E1.live a o (by rw [upd_ne (ne_of_none h hp)]; exact h)
      have off : ∀ {d : D} {v : V}, At ⟨X.K, fun a => rs a ∨ a = p⟩ ι1 S1.length H1 d v → At ⟨X.K, rs⟩ (bump ι1 S1.length p) (S1.length + 1) (upd H1 p (.dK (mergeK [] kws))) d v :=
        fun a => At.grown (a.offD (Or.inr rfl) nd1 nt nf)
      have offL : ∀ {d : List D} {v : List V}, AtL ⟨X.K, fun a => rs a ∨ a = p⟩ ι1 S1.length H1 d v → AtL ⟨X.K, rs⟩ (bump ι1 S1.length p) (S1.length + 1) (upd H1 p (.dK (mergeK [] kws))) d v :=
        fun a => AtL.grown (a.offD (Or.inr rfl) nd1 nt nf)
      have offK : ∀ {ks : List (Key × D)} {ws : List (Key × V)}, KAt ⟨X.K, fun a => rs a ∨ a = p⟩ ι1 S1.length H1 ks ws → KAt ⟨X.K, rs⟩ (bump ι1 S1.length p) (S1.length + 1) (upd H1 p (.dK (mergeK [] kws))) ks ws := fun h => Paired.mapP h fun _ _ q => ⟨q.1, off q.2⟩
      have lenM : (mergeK [] kws).length ≤ sizeLine := by
        have h1 := length_mergeK kws []
        rw [List.length_nil] at h1
        rw [sizeLine_eq]; omega
      have Ra : Rel ⟨X.K, rs⟩ (bump ι1 S1.length p) (S1 ++ [MO.dct (mergeD kvs)]) (upd H1 p (.dK (mergeK [] kws))) := by
        refine ⟨fun m n hm hn e => ?_, fun n x e => ?_, fun a h => ?_⟩
        · rw [hlen] at hm hn
          by_cases h1 : m < S1.length
          · by_cases h2 : n < S1.length
            · rw [bump_lt h1, bump_lt h2] at e; exact R1.inj m n h1 h2 e
            · rw [bump_lt h1, show n = S1.length by omega, bump_at] at e
              exact absurd e (nd1 m h1)
          · by_cases h2 : n < S1.length
            · rw [bump_lt h2, show m = S1.length by omega, bump_at] at e
              exact absurd e.symm (nd1 n h2)
            · omega
        · rw [hlen]
          by_cases h1 : n < S1.length
          · rw [List.getElem?_append_left h1] at e
            have q := R1.obj n x e
            rw [bump_lt h1]
            cases x with
            | lst ds => obtain ⟨ws, q1, q2, q3⟩ := q; exact ⟨ws, by rw [upd_ne (nd1 n h1)]; exact q1, offL q2, q3⟩
            | dct ks => obtain ⟨ws, q1, q2, q3⟩ := q; exact ⟨ws, by rw [upd_ne (nd1 n h1)]; exact q1, offK q2, q3⟩
          · have hn : n = S1.length := by
              have := (List.getElem?_eq_some_iff.mp e).1
              rw [hlen] at this
              omega
            subst hn
            rw [List.getElem?_append_right (Nat.le_refl _), Nat.sub_self] at e
            cases e
            rw [bump_at]
            exact ⟨_, upd_same, (offK l).merge .nil, lenM⟩
        · obtain ⟨u, q⟩ := R1.res a (Or.inl h)
          by_cases ea : a = p
          · exact ⟨_, by rw [ea, upd_same]⟩
          · exact ⟨u, by rw [upd_ne ea]; exact q⟩
      have := k (bump ι1 S1.length p) (upd H1 p (.dK (mergeK [] kws))) (.ref p) (by rw [hlen]; exact Ea) Ra (by
        rw [hlen]
        have q : At ⟨X.K, rs⟩ (bump ι1 S1.length p) (S1.length + 1) (upd H1 p (.dK (mergeK [] kws))) (.ref S1.length) (.ref (bump ι1 S1.length p S1.length)) := .ref (Nat.lt_succ_self _)
        rw [bump_at] at q
        exact q)
      exact this
    · cases hf
  · cases hf
end
end FS
set_option Elab.async false
set_option linter.all false
set_option maxRecDepth 100000
set_option maxHeartbeats 4000000
namespace FS
open PySem PySem.Spec PyProof.Rows L2

theorem atL_ints {K : KR} {ι : Nat → Addr} {N : Nat} {H : Hp} : ∀ ns : List Int, AtL K ι N H (ns.map D.int) (ns.map V.int)
  | [] => .nil
  | n :: ns => .cons (.int n) (atL_ints ns)
/-- the law's def is asked with the script alone -/
theorem sp_script {K : PySem.W.Frag} {F : Fn} {H : Hp} {a : Addr} {ns : List Int} {S' : Sto} (h : RdS ⟨K, fun _ => False⟩ H a (ns.map V.int)) (hz : ns.length ≤ sizeLine) (hF : F [.scr (ns.map D.int)] [] = some (.bl true, S')) :
    spOf K F [.ref a] H (fun v _ => v = .bl true) := by
  refine ⟨fun _ => False, fun _ => 0, [], [.scr (ns.map D.int)], .bl true, S', ⟨fun m n hm => absurd hm (Nat.not_lt_zero _), fun n o e => by simp at e, fun a z => z.elim⟩, .cons (.scr h (by rw [List.length_map]; exact hz) (atL_ints ns)) .nil, hF, ?_⟩
  intro ι' H' v _ _ q
  cases q
  rfl
theorem law_callG {P : Program} {w : World} {K : PySem.W.Frag} {mg mb : Str → Option Value} {k : Nat} {fa a : Addr} {fd : FuncData} {x : Str} {F : Fn} {s₁ : Shared} {vs : List Value} {ns : List Int} {S' : Sto}
    (KX : K.In s₁.heap) (hns : s₁.heap.Ns mainGlobals mg) (hb : s₁.heap.Ns builtinsNs mb) (hbb : ∀ x : Str, x ≠ "__name__" → mb x = bootBuiltins x) (hlim : s₁.heap.NoLimit) (hg : s₁.gens = #[])
    (ha : s₁.heap.get? a = some { cls := .type "list", data := .seq vs.toArray }) (hi : IntsAre vs ns) (hl : ns.length ≤ sizeLine) (hr : Room k callerA)
    (G : ∀ base : Heap, K.In base → base.Ns mainGlobals mg → FG P w K mg base k fa fd [x] F) (hbind : ∀ (s : Shared) (u : Value), BindsTo s fd ⟨[u], []⟩ [(x, u)])
    (hF : F [.scr (ns.map D.int)] [] = some (.bl true, S')) :
    codeAny (model P w) callerA (.call (.ref fa) ⟨[.ref a], []⟩) (fun r s' => r = .ok (.ret (.bool true)) ∧ OldK s₁.heap s'.heap ∧ s'.os = s₁.os ∧ AllBare s'.gens) s₁ := by
  have rv := vals_ints hi
  have lenV := hi.length
  have main : ∀ H : Hp, (∀ b u, H b = some u → b = a ∧ K.lookup a = none ∧ ∃ o ws, u = .frz o (.lst ws)) → RdS ⟨K, fun _ => False⟩ H a (ns.map V.int) → HOk P w H s₁.heap →
      codeAny (model P w) callerA (.call (.ref fa) ⟨[.ref a], []⟩) (fun r s' => r = .ok (.ret (.bool true)) ∧ OldK s₁.heap s'.heap ∧ s'.os = s₁.os ∧ AllBare s'.gens) s₁ := by
    intro H hO hS hok
    have only : ∀ {b : Addr}, b ≠ a → H b = none := by
      intro b hb
      cases q : H b with
      | none => rfl
      | some u => exact absurd (hO b u q).1 hb
    have dictFree : ∀ {b : Addr} {m : Str → Option Value}, s₁.heap.Ns b m → (hidT s₁.heap H).Ns b m := by
      rintro b m ⟨o, es, ep, e, d, r⟩
      refine ⟨o, es, ep, hidT_get e (only ?_), d, r⟩
      rintro rfl
      rw [ha] at e
      cases e
      cases d
    have KB : K.In (hidT s₁.heap H) := by
      intro b o e
      apply hidT_get (KX b o e)
      cases q : H b with
      | none => rfl
      | some u =>
        obtain ⟨rfl, q2, _⟩ := hO b u q
        rw [q2] at e; cases e
    have M : Mod K mg (hidT s₁.heap H) := ⟨KB, dictFree hns, ⟨mb, dictFree hb, hbb⟩, by obtain ⟨mc, h1, h2⟩ := hlim; exact ⟨mc, dictFree h1, h2⟩⟩
    have nil : ∀ b : Addr, b ∉ frs ([] : List Env) := fun b z => by simp [frs] at z
    have e0 : Env0 P w K mg (hidT s₁.heap H) callerA [] s₁ H := ⟨rfl, M, fun b o e => of_hidT e, Nat.le_of_eq (hidT_size _ _), trivial, fun b z => absurd z (nil b), hok, .of_eq hg⟩
    have run := (G _ KB (dictFree hns)).run callerA [] s₁ H ⟨[.ref a], []⟩ [.ref a] [.ref a] _ hr rfl e0 (hbind s₁ (.ref a)) (.cons rfl .nil) (sp_script hS hl hF)
    apply codeAny_mono run
    intro r s' h
    match r, h with
    | .ok (.ret u), ⟨v, H', os, bare, un, hok', r', q⟩ =>
      cases q
      cases r'
      refine ⟨rfl, OldK.of_keep fun b o e => ?_, os, bare⟩
      cases q : H b with
      | none => exact un.keep b o e q (nil b) (by simp)
      | some u =>
        obtain ⟨_, _, ob, ws, rfl⟩ := hO b u q
        have e1 := (hok b _ q).1
        have e2 := (hok' b _ (un.frzs b ob _ q)).1
        rw [e] at e1
        cases e1
        exact e2
    | .ok .next, h => exact h.elim
    | .ok .brk, h => exact h.elim
    | .ok .cont, h => exact h.elim
    | .error _, h => exact h.elim
  have hv : Vals (ns.map V.int) vs := rv
  cases hk : K.lookup a with
  | some o =>
    have e := KX a o hk
    rw [ha] at e
    cases e
    refine main (fun _ => none) (fun b u z => ?_) (.inr ⟨_, vs.toArray, _, hk, rfl, rfl, rfl, ?_, ?_⟩) (fun b u z => ?_)
    · cases z
    · rw [List.size_toArray, lenV]; exact hl
    · simpa using hv
    · cases z
  | none =>
    let o₀ : Obj := { cls := .type "list", data := .seq vs.toArray }
    refine main (fun b => if b = a then some (.frz o₀ (.lst (ns.map V.int))) else none) (fun b u z => ?_) (.inl ⟨o₀, if_pos rfl⟩) (fun b u z => ?_)
    · replace z : (if b = a then some (HO.frz o₀ (.lst (ns.map V.int))) else none) = some u := z
      split at z
      · rename_i hb
        cases z
        exact ⟨hb, hk, _, _, rfl⟩
      · cases z
    · replace z : (if b = a then some (HO.frz o₀ (.lst (ns.map V.int))) else none) = some u := z
      split at z
      · rename_i hb
        cases z
        subst hb
        exact ⟨ha, by rw [List.length_map]; exact hl, vs, _, hv, ha⟩
      · cases z
/-- the goal that the head leaves -/
theorem walk_ofG {l : PySem.W.OpenLaw} {n k : Nat} {q : Program} {loose : List Str} {XP : (Str → Option Value) → Heap → Prop} {YP : World → Heap → Prop} {d : DefRec} {K : Params → PySem.W.Frag} {F : Fn} {x : Str}
    (hn : l.most = some n) (hn2 : n ≤ sizeLine) (hdf : d.params.defaults = []) (hr : Room k callerA) (hY : ∀ (w : World) (h : Heap), YP w h → (K w.params).In h)
    (G : ∀ (w : World) (mg : Str → Option Value) (fa : Addr) (h : Heap), (K w.params).In h → h.Ns mainGlobals mg → mg d.name = some (.ref fa) →
      ∃ fd : FuncData, (∀ (s : Shared) (u : Value), BindsTo s fd ⟨[u], []⟩ [(x, u)]) ∧ ∀ base : Heap, (K w.params).In base → base.Ns mainGlobals mg → FG l.prog w (K w.params) mg base k fa fd [x] F)
    (hF : ∀ ns : List Int, ns.length ≤ n → ∃ S', F [.scr (ns.map D.int)] [] = some (.bl true, S')) :
    PySem.W.WalkO q loose XP YP l.row.toRowW d [] (fun f vs => PySem.call f vs) := by
  apply Att.attach_call hn hdf
  intro w s₀ s₁ mg mb fa o pm cd doc a vs ns T Y ho hd hcd hmg hobj hints hlen hg
  have KX := hY w _ Y
  obtain ⟨fd, hb, hG⟩ := G w mg fa _ KX T.T.g hmg
  obtain ⟨S', hS⟩ := hF ns hlen
  exact law_callG KX T.T.g T.T.b T.T.builtins T.T.nolimit hg hobj hints (Nat.le_trans hlen hn2) hr hG hb hS
end FS
set_option Elab.async false
set_option linter.all false
set_option maxRecDepth 100000
set_option maxHeartbeats 4000000
namespace FS
open PySem PySem.Spec PyProof.Rows L2

/-! ### stores -/
/-- all numbers in the store are numbers of the store -/
def Clo (S : Sto) : Prop := S.all (closedM S.length) = true
mutual
theorem closed_mono {m n : Nat} (h : m ≤ n) : ∀ {d : D}, closed m d = true → closed n d = true
  | .non, _ => rfl
  | .bl _, _ => rfl
  | .int _, _ => rfl
  | .str _, _ => rfl
  | .tup xs, c => by simp only [closed] at c ⊢; exact closedL_mono h c
  | .lst xs, c => by simp only [closed] at c ⊢; exact closedL_mono h c
  | .scr xs, c => by simp only [closed] at c ⊢; exact closedL_mono h c
  | .ref k, c => by simp only [closed, decide_eq_true_eq] at c ⊢; omega
theorem closedL_mono {m n : Nat} (h : m ≤ n) : ∀ {ds : List D}, closedL m ds = true → closedL n ds = true
  | [], _ => rfl
  | x :: xs, c => by
    simp only [closedL, Bool.and_eq_true] at c ⊢
    exact ⟨closed_mono h c.1, closedL_mono h c.2⟩
end
theorem closedM_mono {m n : Nat} (h : m ≤ n) : ∀ {u : MO}, closedM m u = true → closedM n u = true
  | .lst _, c => closedL_mono h c
  | .dct _, c => closedL_mono h c
theorem closedL_iff {n : Nat} : ∀ {ds : List D}, closedL n ds = true ↔ ∀ d ∈ ds, closed n d = true
  | [] => by simp [closedL]
  | x :: xs => by simp [closedL, closedL_iff (ds := xs)]
theorem Clo.nil : Clo [] := rfl
theorem Clo.at {S : Sto} (c : Clo S) {n : Nat} {u : MO} (h : S[n]? = some u) : closedM S.length u = true := List.all_eq_true.mp c u (List.mem_of_getElem? h)
theorem Clo.app {S : Sto} {u : MO} (c : Clo S) (h : closedM (S.length + 1) u = true) : Clo (S ++ [u]) := by
  unfold Clo
  rw [List.all_append, List.length_append, List.length_singleton, Bool.and_eq_true]
  refine ⟨List.all_eq_true.mpr fun x hx => closedM_mono (Nat.le_succ _) (List.all_eq_true.mp c x hx), by simp [h]⟩
theorem Clo.set {S : Sto} {n : Nat} {u : MO} (c : Clo S) (h : closedM S.length u = true) : Clo (S.set n u) := by
  unfold Clo
  rw [List.length_set]
  refine List.all_eq_true.mpr fun x hx => ?_
  rcases List.mem_or_eq_of_mem_set hx with z | z
  · exact List.all_eq_true.mp c x z
  · rw [z]; exact h
theorem lsOf_app {S T : Sto} {d : D} {xs : List D} (h : lsOf S d = some xs) : lsOf (S ++ T) d = some xs := by
  unfold lsOf at h ⊢
  split at h
  · exact h
  · exact h
  · rename_i n
    split at h
    · rename_i ys e
      rw [List.getElem?_append_left (List.getElem?_eq_some_iff.mp e).1, e]
      exact h
    · cases h
  · cases h
theorem lsOf_set {S : Sto} {n : Nat} {u : MO} {d : D} {xs : List D} (hd : closed n d = true) (h : lsOf S d = some xs) : lsOf (S.set n u) d = some xs := by
  unfold lsOf at h ⊢
  split at h
  · exact h
  · exact h
  · rename_i k
    simp only [closed, decide_eq_true_eq] at hd
    rw [List.getElem?_set_ne (by omega)]
    exact h
  · cases h
theorem sqOf_of_ls {S : Sto} {d : D} {xs : List D} (h : lsOf S d = some xs) : sqOf S d = some xs := by
  unfold sqOf
  split
  · cases h
  · exact h
theorem lsOf_lm {S : Sto} {d : D} {xs : List D} (h : lmOf S d = some xs) : lsOf S d = some xs := by
  unfold lmOf at h
  unfold lsOf
  split at h
  · exact h
  · exact h
  · cases h
/-! ### settling -/
theorem settle_eq {n : Nat} {d : D} {S' : Sto} (h1 : n ≤ S'.length) (h2 : Clo (S'.take n)) (h3 : closed n d = true) : settle n (d, S') = some (d, S'.take n) := by
  have hl : (S'.take n).length = n := by rw [List.length_take]; omega
  have h2' : (S'.take n).all (closedM n) = true := by have := h2; unfold Clo at this; rw [hl] at this; exact this
  simp only [settle]
  rw [if_pos ⟨h1, h2'⟩, if_pos h3]
theorem settled_same {F : Fn} {ds : List D} {S : Sto} {d : D} (h : F ds S = some (d, S)) (c : Clo S) (hd : closed S.length d = true) : settled F ds S = some (d, S) := by
  unfold settled
  rw [h]
  show settle S.length (d, S) = _
  rw [settle_eq (Nat.le_refl _) (by rw [List.take_length]; exact c) hd, List.take_length]
theorem settled_app {F : Fn} {ds : List D} {S T : Sto} {d : D} (h : F ds S = some (d, S ++ T)) (c : Clo S) (hd : closed S.length d = true) : settled F ds S = some (d, S) := by
  unfold settled
  rw [h]
  show settle S.length (d, S ++ T) = _
  rw [settle_eq (by simp) (by rw [List.take_left]; exact c) hd, List.take_left]
theorem settled_to {F : Fn} {ds : List D} {S S1 T : Sto} {d : D} (h : F ds S = some (d, S1 ++ T)) (hl : S1.length = S.length) (c : Clo S1) (hd : closed S.length d = true) : settled F ds S = some (d, S1) := by
  unfold settled
  rw [h]
  show settle S.length (d, S1 ++ T) = _
  rw [← hl] at hd ⊢
  rw [settle_eq (by simp) (by rw [List.take_left]; exact c) hd, List.take_left]
theorem settled_lst {F : Fn} {ds : List D} {S S1 T : Sto} {m : Nat} {xs : List D} (h : F ds S = some (.ref m, S1 ++ T)) (hl : S1.length = S.length) (c : Clo S1) (hm : S.length ≤ m) (hx : (S1 ++ T)[m]? = some (.lst xs)) (hc : closedL S.length xs = true) :
    settled F ds S = some (.lst xs, S1) := by
  unfold settled
  rw [h]
  show settle S.length (.ref m, S1 ++ T) = _
  have c' : S1.all (closedM S1.length) = true := c
  simp only [settle]
  rw [hx, ← hl, List.take_left, if_pos ⟨by simp, c'⟩, if_neg (by simp only [closed, decide_eq_true_eq]; omega)]
  dsimp only
  rw [if_pos ⟨by omega, by rw [hl]; exact hc⟩]

/-! ### loops -/
theorem forB_inv {c : Sto → Bool} {t : Tg} {b : B} (I : List D → Rho → Sto → Prop)
    (hs : ∀ x xs ρ S, I (x :: xs) ρ S → ∃ ρ1 ρ2 S2, t x ρ = some ρ1 ∧ (b ρ1 S = some (.nx, ρ2, S2) ∨ b ρ1 S = some (.ct, ρ2, S2)) ∧ c S2 = true ∧ I xs ρ2 S2) :
    ∀ (xs : List D) (ρ : Rho) (S : Sto), I xs ρ S → ∃ ρ' S', forB c t b xs ρ S = some (.nx, ρ', S') ∧ I [] ρ' S'
  | [], ρ, S, h => ⟨ρ, S, rfl, h⟩
  | x :: xs, ρ, S, h => by
    obtain ⟨ρ1, ρ2, S2, e1, e2, e3, h2⟩ := hs x xs ρ S h
    obtain ⟨ρ', S', e4, h4⟩ := forB_inv I hs xs ρ2 S2 h2
    refine ⟨ρ', S', ?_, h4⟩
    simp only [forB, e1]
    rcases e2 with e2 | e2 <;> (rw [e2]; dsimp only; rw [if_pos e3]; exact e4)
theorem lcB_sel {α : Type} {t : Tg} {c : Gb} {f : G} {st : Sto → Bool} {ρ : Rho} {S : Sto} (enc : α → D) (p : α → Bool) (g : α → D) (hst : st S = true) : ∀ (xs : List α),
    (∀ x ∈ xs, ∃ ρ1, t (enc x) ρ = some ρ1 ∧ c ρ1 S = some (p x, S) ∧ (p x = true → f ρ1 S = some (g x, S))) → lcB t c f st ρ (xs.map enc) S = some ((xs.filter p).map g, S)
  | [], _ => rfl
  | x :: xs, h => by
    obtain ⟨ρ1, e1, e2, e3⟩ := h x (List.mem_cons_self)
    have ih := lcB_sel enc p g hst xs fun y hy => h y (List.mem_cons_of_mem _ hy)
    simp only [List.map_cons, lcB, e1, e2]
    cases hp : p x with
    | false =>
      simp only [List.filter_cons, hp, Bool.false_eq_true, if_false]
      rw [if_pos hst]
      exact ih
    | true =>
      simp only [List.filter_cons, hp, if_true, e3 hp, List.map_cons]
      rw [if_pos hst, ih]
theorem lcB_map {α : Type} {t : Tg} {f : G} {st : Sto → Bool} {ρ : Rho} {S : Sto} (enc : α → D) (g : α → D) (hst : st S = true) (xs : List α)
    (h : ∀ x ∈ xs, ∃ ρ1, t (enc x) ρ = some ρ1 ∧ f ρ1 S = some (g x, S)) : lcB t cYes f st ρ (xs.map enc) S = some (xs.map g, S) := by
  have := lcB_sel (t := t) (c := cYes) (f := f) (st := st) (ρ := ρ) (S := S) enc (fun _ => true) g hst xs fun x hx => by
    obtain ⟨ρ1, e1, e2⟩ := h x hx
    exact ⟨ρ1, e1, rfl, fun _ => e2⟩
  rw [this, List.filter_eq_self.mpr (fun _ _ => rfl)]
theorem lcB_inv {t : Tg} {f : G} {st : Sto → Bool} {ρ : Rho} (I : List D → List D → Sto → Prop)
    (hs : ∀ x xs acc S, I (x :: xs) acc S → ∃ ρ1 d S2, t x ρ = some ρ1 ∧ f ρ1 S = some (d, S2) ∧ st S2 = true ∧ I xs (acc ++ [d]) S2) :
    ∀ (xs acc : List D) (S : Sto), st S = true → I xs acc S → ∃ ds S', lcB t cYes f st ρ xs S = some (ds, S') ∧ I [] (acc ++ ds) S'
  | [], acc, S, _, h => ⟨[], S, rfl, by rw [List.append_nil]; exact h⟩
  | x :: xs, acc, S, h0, h => by
    obtain ⟨ρ1, d, S2, e1, e2, e3, h2⟩ := hs x xs acc S h
    obtain ⟨ds, S', e4, h4⟩ := lcB_inv I hs xs (acc ++ [d]) S2 e3 h2
    refine ⟨d :: ds, S', ?_, by rw [List.append_cons]; exact h4⟩
    simp only [lcB, e1, cYes, e2]
    rw [if_pos e3, e4]
theorem still_none {xs : List D} {S : Sto} : still xs none S = true := rfl
theorem still_at {xs : List D} {n : Nat} {S : Sto} (h : S[n]? = some (.lst xs)) : still xs (some n) S = true := by
  simp only [still, h]
  exact sameL_refl xs
/-! ### items by written places -/
theorem atI_of {α : Type} (xs : List α) (n : Nat) : atI xs (n : Int) = xs[n]? := by
  cases h : xs[n]? with
  | some v => exact atI_nat h
  | none =>
    unfold atI ixN
    rw [if_pos (Int.natCast_nonneg n)]
    rw [List.getElem?_eq_none_iff] at h
    rw [if_neg (by omega)]
    rfl
theorem ixO_tup (S : Sto) (xs : List D) (n : Nat) : ixO S (.tup xs) (.int (n : Int)) = xs[n]? := atI_of xs n
theorem ixO_ls {S : Sto} {d : D} {xs : List D} (h : lsOf S d = some xs) (n : Nat) : ixO S d (.int (n : Int)) = xs[n]? := by
  cases d with
  | lst ys => cases h; exact atI_of _ n
  | scr ys => cases h; exact atI_of _ n
  | ref k =>
    show (match sqOf S (.ref k) with | some xs => atI xs (n : Int) | none => none) = _
    rw [sqOf_of_ls h]
    exact atI_of _ n
  | _ => cases h
theorem ix0 (S : Sto) (a : D) (r : List D) : ixO S (.tup (a :: r)) (.int 0) = some a := ixO_tup S (a :: r) 0
theorem ix1 (S : Sto) (a b : D) (r : List D) : ixO S (.tup (a :: b :: r)) (.int 1) = some b := ixO_tup S (a :: b :: r) 1
theorem ix2 (S : Sto) (a b c : D) (r : List D) : ixO S (.tup (a :: b :: c :: r)) (.int 2) = some c := ixO_tup S (a :: b :: c :: r) 2
theorem ix3 (S : Sto) (a b c d : D) (r : List D) : ixO S (.tup (a :: b :: c :: d :: r)) (.int 3) = some d := ixO_tup S (a :: b :: c :: d :: r) 3
theorem ix4 (S : Sto) (a b c d e : D) (r : List D) : ixO S (.tup (a :: b :: c :: d :: e :: r)) (.int 4) = some e := ixO_tup S (a :: b :: c :: d :: e :: r) 4
theorem ix5 (S : Sto) (a b c d e f : D) (r : List D) : ixO S (.tup (a :: b :: c :: d :: e :: f :: r)) (.int 5) = some f := ixO_tup S (a :: b :: c :: d :: e :: f :: r) 5
end FS
set_option Elab.async false
set_option linter.all false
set_option maxRecDepth 100000
set_option maxHeartbeats 4000000
namespace FS
open PySem PySem.Spec PyProof.Rows L2
/-! ### lists of the store -/
theorem sq_cases {S : Sto} {d : D} {xs : List D} (h : sqOf S d = some xs) : d = .tup xs ∨ lsOf S d = some xs := by
  unfold sqOf at h
  split at h
  · cases h; exact .inl rfl
  · exact .inr h
theorem sqOf_app {S T : Sto} {d : D} {xs : List D} (h : sqOf S d = some xs) : sqOf (S ++ T) d = some xs := by
  rcases sq_cases h with rfl | h
  · rfl
  · exact sqOf_of_ls (lsOf_app h)
theorem sqOf_set {S : Sto} {n : Nat} {u : MO} {d : D} {xs : List D} (hd : FS.closed n d = true) (h : sqOf S d = some xs) : sqOf (S.set n u) d = some xs := by
  rcases sq_cases h with rfl | h
  · rfl
  · exact sqOf_of_ls (lsOf_set hd h)
theorem ap_at {S : Sto} (u : MO) : (S ++ [u])[S.length]? = some u := by simp
theorem ap_set {S : Sto} (u v : MO) : (S ++ [u]).set S.length v = S ++ [v] := by simp
theorem ixO_sq {S : Sto} {d : D} {xs : List D} (h : sqOf S d = some xs) (n : Nat) : ixO S d (.int (n : Int)) = xs[n]? := by
  rcases sq_cases h with rfl | h
  · exact ixO_tup S _ n
  · exact ixO_ls h n
theorem lenO_sq {S : Sto} {d : D} {xs : List D} (h : sqOf S d = some xs) : lenO S [d] = some (.int xs.length) := by
  cases d with
  | str z => cases h
  | _ => exact congrArg (Option.map fun xs : List D => D.int xs.length) h
theorem intsFrom_map (n : Nat) : ∀ i : Int, FS.intsFrom i n = (List.range n).map fun (k : Nat) => D.int (i + k) := by
  induction n with
  | zero => intro i; rfl
  | succ n ih =>
    intro i
    rw [List.range_succ_eq_map, List.map_cons, List.map_map, FS.intsFrom, ih]
    congr 1
    · simp
    · refine List.map_congr_left fun k _ => ?_
      simp only [Function.comp]
      congr 1
      omega
theorem ints0 (n : Nat) : FS.intsFrom 0 n = (List.range n).map fun (k : Nat) => D.int k := by
  rw [intsFrom_map]
  refine List.map_congr_left fun k _ => ?_
  congr 1
  omega
/-- a loop over a list: what holds of what is behind it -/
theorem forB_pre {α : Type} {c : Sto → Bool} {t : Tg} {b : B} (enc : α → D) (St : List α → Rho → Sto → Prop) :
    ∀ (post pre : List α), (∀ pre' x post', pre ++ post = pre' ++ x :: post' → ∀ ρ S, St pre' ρ S → ∃ ρ1 ρ2 S2, t (enc x) ρ = some ρ1 ∧ (b ρ1 S = some (.nx, ρ2, S2) ∨ b ρ1 S = some (.ct, ρ2, S2)) ∧ c S2 = true ∧ St (pre' ++ [x]) ρ2 S2) →
    ∀ ρ S, St pre ρ S → ∃ ρ' S', forB c t b (post.map enc) ρ S = some (.nx, ρ', S') ∧ St (pre ++ post) ρ' S'
  | [], pre, _, ρ, S, h => ⟨ρ, S, rfl, by rw [List.append_nil]; exact h⟩
  | x :: post, pre, hs, ρ, S, h => by
    obtain ⟨ρ1, ρ2, S2, e1, e2, e3, h2⟩ := hs pre x post rfl ρ S h
    obtain ⟨ρ', S', e4, h4⟩ := forB_pre enc St post (pre ++ [x]) (fun p y q e => hs p y q (by rw [← e]; simp)) ρ2 S2 h2
    refine ⟨ρ', S', ?_, by simpa using h4⟩
    simp only [List.map_cons, forB, e1]
    rcases e2 with e2 | e2 <;> (rw [e2]; dsimp only; rw [if_pos e3]; exact e4)
theorem forB_all {α : Type} {c : Sto → Bool} {t : Tg} {b : B} (enc : α → D) (St : List α → Rho → Sto → Prop) (xs : List α)
    (hs : ∀ pre x post, xs = pre ++ x :: post → ∀ ρ S, St pre ρ S → ∃ ρ1 ρ2 S2, t (enc x) ρ = some ρ1 ∧ (b ρ1 S = some (.nx, ρ2, S2) ∨ b ρ1 S = some (.ct, ρ2, S2)) ∧ c S2 = true ∧ St (pre ++ [x]) ρ2 S2)
    {ρ : Rho} {S : Sto} (h : St [] ρ S) : ∃ ρ' S', forB c t b (xs.map enc) ρ S = some (.nx, ρ', S') ∧ St xs ρ' S' :=
  forB_pre enc St xs [] (fun p y q e => hs p y q e) ρ S h
theorem range_pre {n : Nat} {pre post : List Nat} {x : Nat} (e : List.range n = pre ++ x :: post) : pre = List.range x ∧ x < n := by
  have hx : pre.length < n := by
    have := congrArg List.length e
    simp at this
    omega
  have h1 : (List.range n)[pre.length]? = some x := by rw [e]; simp
  rw [List.getElem?_range hx] at h1
  cases h1
  refine ⟨?_, hx⟩
  have := congrArg (List.take pre.length) e
  rw [List.take_left, List.take_range, Nat.min_eq_left (by omega)] at this
  exact this.symm
theorem forB_range {c : Sto → Bool} {t : Tg} {b : B} (St : Nat → Rho → Sto → Prop) (n : Nat)
    (hs : ∀ k, k < n → ∀ ρ S, St k ρ S → ∃ ρ1 ρ2 S2, t (.int (k : Int)) ρ = some ρ1 ∧ (b ρ1 S = some (.nx, ρ2, S2) ∨ b ρ1 S = some (.ct, ρ2, S2)) ∧ c S2 = true ∧ St (k + 1) ρ2 S2)
    {ρ : Rho} {S : Sto} (h : St 0 ρ S) : ∃ ρ' S', forB c t b (FS.intsFrom 0 n) ρ S = some (.nx, ρ', S') ∧ St n ρ' S' := by
  rw [ints0]
  obtain ⟨ρ', S', e, h'⟩ := forB_all (c := c) (t := t) (b := b) (fun (k : Nat) => D.int k) (fun pre ρ S => St pre.length ρ S) (List.range n) (fun pre x post e ρ S h => by
    obtain ⟨e1, e2⟩ := range_pre e
    subst e1
    rw [List.length_range] at h
    obtain ⟨ρ1, ρ2, S2, a1, a2, a3, a4⟩ := hs x e2 ρ S h
    exact ⟨ρ1, ρ2, S2, a1, a2, a3, by simpa using a4⟩) (ρ := ρ) (S := S) h
  exact ⟨ρ', S', e, by simpa using h'⟩
theorem sIx_nat {n k d : Nat} : HT.sIx n d (some (k : Int)) = min k n := by
  unfold HT.sIx
  simp only
  split <;> omega
theorem cut_to {α : Type} (xs : List α) (k : Nat) : FS.cutD xs none (some (k : Int)) = xs.take k := by
  unfold FS.cutD
  rw [sIx_nat, show HT.sIx xs.length 0 none = 0 from rfl, List.drop_zero, Nat.sub_zero]
  rcases Nat.le_total k xs.length with h | h
  · rw [Nat.min_eq_left h]
  · rw [Nat.min_eq_right h, List.take_of_length_le (Nat.le_refl _), List.take_of_length_le h]
theorem cut_from {α : Type} (xs : List α) (k : Nat) : FS.cutD xs (some (k : Int)) none = xs.drop k := by
  unfold FS.cutD
  rw [sIx_nat, show HT.sIx xs.length xs.length none = xs.length from rfl]
  rcases Nat.le_total k xs.length with h | h
  · rw [Nat.min_eq_left h, List.take_of_length_le (by simp)]
  · rw [Nat.min_eq_right h]
    simp [List.drop_eq_nil_of_le h]
theorem slice_to (S : Sto) (xs : List D) (k : Nat) : sliceO S (.tup xs) none (some (k : Int)) = some (.tup (xs.take k)) := by
  show some (D.tup (FS.cutD xs none (some (k : Int)))) = _
  rw [cut_to]
theorem app_to {S : Sto} {n : Nat} {xs : List D} {y : D} (h : S[n]? = some (.lst xs)) (hl : xs.length < sizeLine) : appendO S (.ref n) [y] = some (.non, S.set n (.lst (xs ++ [y]))) := by
  unfold appendO
  simp only [h, if_pos hl]
theorem ext_to {S : Sto} {n : Nat} {xs zs : List D} (h : S[n]? = some (.lst xs)) (hl : xs.length + zs.length ≤ sizeLine) : extO S (.ref n) [.tup zs] = some (.non, S.set n (.lst (xs ++ zs))) := by
  unfold extO
  simp only [h, if_pos hl]
theorem isL_at {S : Sto} {n : Nat} {xs : List D} (h : S[n]? = some (.lst xs)) : isL S (.ref n) = true := by
  unfold isL lsOf
  simp only [h, Option.isSome]
theorem sL : sizeLine = 16777216 := sizeLine_eq
end FS
set_option Elab.async false
set_option linter.all false
set_option maxRecDepth 100000
set_option maxHeartbeats 4000000
/-! what holds behind a worth: step by step -/
namespace FS
open PySem PySem.Spec PyProof.Rows L2
def W1 {α : Type} (r : Option α) (Q : α → Prop) : Prop := ∃ a, r = some a ∧ Q a
def W2 {α : Type} (r : Option (α × Sto)) (Q : α → Sto → Prop) : Prop := ∃ a S, r = some (a, S) ∧ Q a S
def W3 (r : Option (Flw × Rho × Sto)) (Q : Flw → Rho → Sto → Prop) : Prop := ∃ fl ρ S, r = some (fl, ρ, S) ∧ Q fl ρ S
def sq (fl : Flw) (a b : Prop) : Prop := match fl with
  | .nx => a
  | _ => b
section
variable {α : Type} {Q1 : D → Prop} {Q : D → Sto → Prop} {Qb : Bool → Sto → Prop} {Ql : List D → Sto → Prop} {Qp : Option Int → Sto → Prop} {Q3 : Flw → Rho → Sto → Prop} {ρ ρ1 : Rho} {S S1 : Sto} {f g h : G} {c e : Gb} {r : Gs} {b1 b2 : B} {i j : Nat} {d : D} {op : Op2} {opn : OpN} {F : Fn} {l u : Gp}
theorem w1 {x : Option α} {Q : α → Prop} {a : α} (h : x = some a) (k : Q a) : W1 x Q := ⟨a, h, k⟩
theorem w2 {x : Option (α × Sto)} {Q : α → Sto → Prop} {a : α} (h : x = some (a, S)) (k : Q a S) : W2 x Q := ⟨a, S, h, k⟩
theorem w2_imp {x : Option (α × Sto)} {Q Q' : α → Sto → Prop} (h : W2 x Q') (k : ∀ a S, Q' a S → Q a S) : W2 x Q := let ⟨a, S, e, q⟩ := h; ⟨a, S, e, k a S q⟩
theorem w2_mid {x : Option (α × Sto)} {Q : α → Sto → Prop} (P : α → Sto → Prop) (h : W2 x P) (k : ∀ a S, P a S → Q a S) : W2 x Q := w2_imp h k
theorem w3_imp {x : Option (Flw × Rho × Sto)} {Q' : Flw → Rho → Sto → Prop} (h : W3 x Q') (k : ∀ a ρ S, Q' a ρ S → Q3 a ρ S) : W3 x Q3 := let ⟨a, ρ, S, e, q⟩ := h; ⟨a, ρ, S, e, k a ρ S q⟩
theorem sq_nx {a b : Prop} (h : a) : sq .nx a b := h
theorem sq_rt {a b : Prop} (h : b) : sq (.rt d) a b := h
theorem w_seq (h : W3 (b1 ρ S) fun fl ρ1 S1 => sq fl (W3 (b2 ρ1 S1) Q3) (Q3 fl ρ1 S1)) : W3 (cSeq b1 b2 ρ S) Q3 := by
  obtain ⟨fl, ρ1, S1, e, q⟩ := h
  unfold cSeq
  rw [e]
  cases fl with
  | nx => exact q
  | _ => exact ⟨_, _, _, rfl, q⟩
/-- a stop between two statements -/
theorem w_mid (P : Rho → Sto → Prop) (h : W3 (b1 ρ S) fun fl ρ1 S1 => fl = .nx ∧ P ρ1 S1) (k : ∀ ρ1 S1, P ρ1 S1 → W3 (b2 ρ1 S1) Q3) : W3 (cSeq b1 b2 ρ S) Q3 :=
  w_seq (w3_imp h fun fl ρ1 S1 q => by obtain ⟨rfl, q⟩ := q; exact k _ _ q)
/-- .. where the first may give back -/
theorem w_midr (P : Rho → Sto → Prop) (h : W3 (b1 ρ S) fun fl ρ1 S1 => (fl = .nx ∧ P ρ1 S1) ∨ ∃ d, fl = .rt d ∧ Q3 (.rt d) ρ1 S1) (k : ∀ ρ1 S1, P ρ1 S1 → W3 (b2 ρ1 S1) Q3) : W3 (cSeq b1 b2 ρ S) Q3 :=
  w_seq (w3_imp h fun fl ρ1 S1 q => by
    rcases q with ⟨rfl, q⟩ | ⟨d, rfl, q⟩
    · exact k _ _ q
    · exact q)
theorem w_set (h : W2 (f ρ S) fun d S1 => Q3 .nx (ρ.set i (some d)) S1) : W3 (cSet i f ρ S) Q3 := by
  obtain ⟨d, S1, e, q⟩ := h
  unfold cSet
  rw [e]
  exact ⟨_, _, _, rfl, q⟩
theorem w_ret (h : W2 (f ρ S) fun d S1 => Q3 (.rt d) ρ S1) : W3 (cRet f ρ S) Q3 := by
  obtain ⟨d, S1, e, q⟩ := h
  unfold cRet
  rw [e]
  exact ⟨_, _, _, rfl, q⟩
theorem w_drop (h : W2 (f ρ S) fun _ S1 => Q3 .nx ρ S1) : W3 (cDrop f ρ S) Q3 := by
  obtain ⟨d, S1, e, q⟩ := h
  unfold cDrop
  rw [e]
  exact ⟨_, _, _, rfl, q⟩
theorem w_nx (h : Q3 .nx ρ S) : W3 (cNx ρ S) Q3 := ⟨_, _, _, rfl, h⟩
theorem w_ifs (h : W2 (c ρ S) fun b S1 => (b = true → W3 (b1 ρ S1) Q3) ∧ (b = false → W3 (b2 ρ S1) Q3)) : W3 (cIfS c b1 b2 ρ S) Q3 := by
  obtain ⟨b, S1, e, q⟩ := h
  unfold cIfS
  rw [e]
  cases b with
  | true => exact q.1 rfl
  | false => exact q.2 rfl
theorem w_asg {t : Tg} (h : W2 (f ρ S) fun d S1 => ∃ ρ1, t d ρ = some ρ1 ∧ Q3 .nx ρ1 S1) : W3 (cAsg f t ρ S) Q3 := by
  obtain ⟨d, S1, e, ρ1, e1, q⟩ := h
  unfold cAsg
  rw [e]
  dsimp only
  rw [e1]
  exact ⟨_, _, _, rfl, q⟩
theorem w_par (h : W2 (r ρ S) fun xs S1 => ∃ x y, xs = [x, y] ∧ Q3 .nx ((ρ.set i (some x)).set j (some y)) S1) : W3 (cPar i j r ρ S) Q3 := by
  obtain ⟨d, S1, e, x, y, e1, q⟩ := h
  unfold cPar
  rw [e, e1]
  exact ⟨_, _, _, rfl, q⟩
theorem w_dput (hv : W2 (h ρ S) fun v S1 => W2 (f ρ S1) fun x S2 => ∃ n, x = .ref n ∧ W2 (g ρ S2) fun y S3 => ∃ kvs k, S3[n]? = some (.dct kvs) ∧ keyD y = some k ∧ kvs.length < sizeLine ∧ Q3 .nx ρ (S3.set n (.dct (putD kvs k v)))) : W3 (cDput f g h ρ S) Q3 := by
  obtain ⟨v, S1, e1, x, S2, e2, n, rfl, y, S3, e3, kvs, k, e4, e5, e6, q⟩ := hv
  unfold cDput
  rw [e1]
  dsimp only
  rw [e2]
  dsimp only
  rw [e3]
  dsimp only
  rw [e4, e5]
  dsimp only
  rw [if_pos e6]
  exact ⟨_, _, _, rfl, q⟩
theorem w_var (h : ρ[i]? = some (some d)) (k : Q d S) : W2 (cVar i ρ S) Q := ⟨d, S, by unfold cVar; rw [h], k⟩
theorem w_c (k : Q d S) : W2 (cC d ρ S) Q := ⟨d, S, rfl, k⟩
theorem w_bin (h : W2 (f ρ S) fun x S1 => W2 (g ρ S1) fun y S2 => W1 (op S2 x y) fun d => Q d S2) : W2 (cBin op f g ρ S) Q := by
  obtain ⟨x, S1, e1, y, S2, e2, d, e3, q⟩ := h
  refine ⟨d, S2, ?_, q⟩
  unfold cBin
  rw [e1]
  dsimp only
  rw [e2]
  dsimp only
  rw [e3]
theorem w_test (h : W2 (f ρ S) fun d S1 => ∃ b, d = .bl b ∧ Qb b S1) : W2 (cTest f ρ S) Qb := by
  obtain ⟨d, S1, e, b, rfl, q⟩ := h
  unfold cTest
  rw [e]
  exact ⟨_, _, rfl, q⟩
theorem w_if (h : W2 (c ρ S) fun b S1 => (b = true → W2 (f ρ S1) Q) ∧ (b = false → W2 (g ρ S1) Q)) : W2 (cIf c f g ρ S) Q := by
  obtain ⟨b, S1, e, q⟩ := h
  unfold cIf
  rw [e]
  cases b with
  | true => exact q.1 rfl
  | false => exact q.2 rfl
theorem w_andT (h : W2 (c ρ S) fun b S1 => (b = true → W2 (e ρ S1) Qb) ∧ (b = false → Qb false S1)) : W2 (cAndT c e ρ S) Qb := by
  obtain ⟨b, S1, e1, q⟩ := h
  unfold cAndT
  rw [e1]
  cases b with
  | true => exact q.1 rfl
  | false => exact ⟨_, _, rfl, q.2 rfl⟩
theorem w_orT (h : W2 (c ρ S) fun b S1 => (b = true → Qb true S1) ∧ (b = false → W2 (e ρ S1) Qb)) : W2 (cOrT c e ρ S) Qb := by
  obtain ⟨b, S1, e1, q⟩ := h
  unfold cOrT
  rw [e1]
  cases b with
  | true => exact ⟨_, _, rfl, q.1 rfl⟩
  | false => exact q.2 rfl
theorem w_notT (h : W2 (c ρ S) fun b S1 => Qb (!b) S1) : W2 (cNotT c ρ S) Qb := by
  obtain ⟨b, S1, e1, q⟩ := h
  unfold cNotT
  rw [e1]
  exact ⟨_, _, rfl, q⟩
theorem w_and (h : W2 (f ρ S) fun x S1 => ∃ b, x = .bl b ∧ (b = true → W2 (g ρ S1) Q) ∧ (b = false → Q (.bl false) S1)) : W2 (cAnd f g ρ S) Q := by
  obtain ⟨x, S1, e1, b, rfl, q⟩ := h
  unfold cAnd
  rw [e1]
  cases b with
  | true => exact q.1 rfl
  | false => exact ⟨_, _, rfl, q.2 rfl⟩
theorem w_yes (k : Qb true S) : W2 (cYes ρ S) Qb := ⟨_, _, rfl, k⟩
theorem w_nil (k : Ql [] S) : W2 (cNil ρ S) Ql := ⟨_, _, rfl, k⟩
theorem w_cons (h : W2 (f ρ S) fun x S1 => W2 (r ρ S1) fun xs S2 => Ql (x :: xs) S2) : W2 (cCons f r ρ S) Ql := by
  obtain ⟨x, S1, e1, xs, S2, e2, q⟩ := h
  unfold cCons
  rw [e1]
  dsimp only
  rw [e2]
  exact ⟨_, _, rfl, q⟩
theorem w_tup (h : W2 (r ρ S) fun xs S1 => xs.length ≤ sizeLine ∧ Q (.tup xs) S1) : W2 (cTup r ρ S) Q := by
  obtain ⟨xs, S1, e, z, q⟩ := h
  unfold cTup
  rw [e]
  dsimp only
  rw [if_pos z]
  exact ⟨_, _, rfl, q⟩
theorem w_lst (h : W2 (r ρ S) fun xs S1 => xs.length ≤ sizeLine ∧ Q (.lst xs) S1) : W2 (cLst r ρ S) Q := by
  obtain ⟨xs, S1, e, z, q⟩ := h
  unfold cLst
  rw [e]
  dsimp only
  rw [if_pos z]
  exact ⟨_, _, rfl, q⟩
theorem w_new (h : W2 (r ρ S) fun xs S1 => xs.length ≤ sizeLine ∧ Q (.ref S1.length) (S1 ++ [.lst xs])) : W2 (cNew r ρ S) Q := by
  obtain ⟨xs, S1, e, z, q⟩ := h
  unfold cNew
  rw [e]
  dsimp only
  rw [if_pos z]
  exact ⟨_, _, rfl, q⟩
theorem w_dnew (k : Q (.ref S.length) (S ++ [.dct []])) : W2 (cDnew ρ S) Q := ⟨_, _, rfl, k⟩
theorem w_op (h : W2 (r ρ S) fun xs S1 => W1 (opn S1 xs) fun d => Q d S1) : W2 (cOp opn r ρ S) Q := by
  obtain ⟨xs, S1, e, d, e1, q⟩ := h
  unfold cOp
  rw [e]
  dsimp only
  rw [e1]
  exact ⟨_, _, rfl, q⟩
theorem w_call0 (h : W2 (r ρ S) fun xs S1 => W2 (F xs S1) Q) : W2 (cCall F [] r ρ S) Q := by
  obtain ⟨xs, S1, e, q⟩ := h
  unfold cCall
  rw [e]
  dsimp only
  rw [List.append_nil]
  exact q
theorem w_meth {kd : Sto → D → Bool} {op : OpM} (h : W2 (f ρ S) fun x S1 => kd S1 x = true ∧ W2 (r ρ S1) fun ys S2 => W2 (op S2 x ys) Q) : W2 (cMeth kd op f r ρ S) Q := by
  obtain ⟨x, S1, e, z, ys, S2, e1, q⟩ := h
  unfold cMeth
  rw [e]
  dsimp only
  rw [if_pos z, e1]
  exact q
theorem w_sl (h : W2 (f ρ S) fun x S1 => W2 (l ρ S1) fun lo S2 => W2 (u ρ S2) fun hi S3 => W1 (sliceO S3 x lo hi) fun d => Q d S3) : W2 (cSl f l u ρ S) Q := by
  obtain ⟨x, S1, e1, lo, S2, e2, hi, S3, e3, d, e4, q⟩ := h
  refine ⟨d, S3, ?_, q⟩
  unfold cSl
  rw [e1]
  dsimp only
  rw [e2]
  dsimp only
  rw [e3]
  dsimp only
  rw [e4]
theorem w_nop (k : Qp none S) : W2 (cNoP ρ S) Qp := ⟨_, _, rfl, k⟩
theorem w_p (h : W2 (f ρ S) fun x S1 => ∃ i, x = .int i ∧ Qp (some i) S1) : W2 (cP f ρ S) Qp := by
  obtain ⟨x, S1, e1, i, rfl, q⟩ := h
  unfold cP
  rw [e1]
  exact ⟨_, _, rfl, q⟩
theorem w_dget (h : W2 (f ρ S) fun x S1 => ∃ n, x = .ref n ∧ W2 (g ρ S1) fun y S2 => ∃ kvs k d, S2[n]? = some (.dct kvs) ∧ keyD y = some k ∧ valD kvs k = some d ∧ Q d S2) : W2 (cDget f g ρ S) Q := by
  obtain ⟨x, S1, e1, n, rfl, y, S2, e2, kvs, k, d, e3, e4, e5, q⟩ := h
  refine ⟨d, S2, ?_, q⟩
  unfold cDget
  rw [e1]
  dsimp only
  rw [e2]
  dsimp only
  rw [e3, e4]
  dsimp only
  rw [e5]
theorem w_dget2 (hh : W2 (f ρ S) fun x S1 => ∃ n kvs, x = .ref n ∧ S1[n]? = some (.dct kvs) ∧ W2 (g ρ S1) fun y S2 => W2 (h ρ S2) fun z S3 => ∃ kvs k, S3[n]? = some (.dct kvs) ∧ keyD y = some k ∧ Q ((valD kvs k).getD z) S3) : W2 (cDget2 f g h ρ S) Q := by
  obtain ⟨x, S1, e1, n, kvs0, rfl, e0, y, S2, e2, z, S3, e3, kvs, k, e4, e5, q⟩ := hh
  refine ⟨_, S3, ?_, q⟩
  unfold cDget2
  rw [e1]
  dsimp only
  rw [e0]
  dsimp only
  rw [e2]
  dsimp only
  rw [e3]
  dsimp only
  rw [e4, e5]
theorem w_un {o : D → Option D} (h : W2 (f ρ S) fun x S1 => W1 (o x) fun d => Q d S1) : W2 (cUn o f ρ S) Q := by
  obtain ⟨x, S1, e1, d, e3, q⟩ := h
  refine ⟨d, S1, ?_, q⟩
  unfold cUn
  rw [e1]
  dsimp only
  rw [e3]
theorem w_run {np nn : Nat} {b : B} {ds : List D} (hl : ds.length = np) (h : W3 (b (ds.map some ++ List.replicate (nn - np) none) S) fun fl _ S1 => ∃ d, fl = .rt d ∧ Q d S1) : W2 (runFn np nn b ds S) Q := by
  obtain ⟨fl, ρ1, S1, e, d, rfl, q⟩ := h
  refine ⟨d, S1, ?_, q⟩
  unfold runFn
  rw [if_pos hl, e]
theorem w_lc {src : Src} {t : Tg} {vs : List Nat} (h : W2 ((src ρ S).map fun p => ((p.1, p.2.1), p.2.2)) fun p S1 => W2 (lcB t c f (still p.1 p.2) (wipeR ρ vs) p.1 S1) fun ds S2 => Q (.lst ds) S2) : W2 (cLc src t c f vs ρ S) Q := by
  obtain ⟨p, S1, e1, ds, S2, e2, q⟩ := h
  obtain ⟨⟨xs, w, S1'⟩, e3, e4⟩ := Option.map_eq_some_iff.mp e1
  cases e4
  refine ⟨_, S2, ?_, q⟩
  unfold cLc
  rw [e3]
  dsimp only at e2 ⊢
  rw [e2]
theorem w_fors {α : Type} {src : Src} {t : Tg} {b : B} (enc : α → D) (xs : List α) (w : Option Nat) (St : List α → Rho → Sto → Prop)
    (h : src ρ S = some (xs.map enc, w, S1)) (h0 : St [] ρ S1)
    (hs : ∀ pre x post, xs = pre ++ x :: post → ∀ ρ S, St pre ρ S → ∃ ρ1, t (enc x) ρ = some ρ1 ∧ W3 (b ρ1 S) fun fl ρ2 S2 => (fl = .nx ∨ fl = .ct) ∧ still (xs.map enc) w S2 = true ∧ St (pre ++ [x]) ρ2 S2)
    (k : ∀ ρ' S', St xs ρ' S' → Q3 .nx ρ' S') : W3 (cFor src t b ρ S) Q3 := by
  obtain ⟨ρ', S', e, q⟩ := forB_all (c := still (xs.map enc) w) (t := t) (b := b) enc St xs (fun pre x post e ρ S hSt => by
    obtain ⟨ρ1, e1, fl, ρ2, S2, e2, e3, e4, q⟩ := hs pre x post e ρ S hSt
    refine ⟨ρ1, ρ2, S2, e1, ?_, e4, q⟩
    rcases e3 with rfl | rfl
    · exact .inl e2
    · exact .inr e2) h0
  refine ⟨_, ρ', S', ?_, k ρ' S' q⟩
  unfold cFor
  rw [h]
  exact e
theorem w_forr {src : Src} {t : Tg} {b : B} (n : Nat) (St : Nat → Rho → Sto → Prop)
    (h : src ρ S = some (FS.intsFrom 0 n, none, S1)) (h0 : St 0 ρ S1)
    (hs : ∀ i, i < n → ∀ ρ S, St i ρ S → ∃ ρ1, t (.int (i : Int)) ρ = some ρ1 ∧ W3 (b ρ1 S) fun fl ρ2 S2 => (fl = .nx ∨ fl = .ct) ∧ St (i + 1) ρ2 S2)
    (k : ∀ ρ' S', St n ρ' S' → Q3 .nx ρ' S') : W3 (cFor src t b ρ S) Q3 := by
  obtain ⟨ρ', S', e, q⟩ := forB_range (c := still (FS.intsFrom 0 n) none) (t := t) (b := b) St n (fun i hi ρ S hSt => by
    obtain ⟨ρ1, e1, fl, ρ2, S2, e2, e3, q⟩ := hs i hi ρ S hSt
    refine ⟨ρ1, ρ2, S2, e1, ?_, rfl, q⟩
    rcases e3 with rfl | rfl
    · exact .inl e2
    · exact .inr e2) h0
  refine ⟨_, ρ', S', ?_, k ρ' S' q⟩
  unfold cFor
  rw [h]
  exact e
theorem w_src {r : Gs} {n : Nat} (h : W2 (r ρ S) fun xs S1 => xs = [.int (n : Int)] ∧ S1 = S) (hn : n ≤ 1000000) : sRng1 r ρ S = some (FS.intsFrom 0 n, none, S) := by
  obtain ⟨xs, S1, e, rfl, rfl⟩ := h
  unfold sRng1
  rw [e]
  dsimp only
  rw [if_pos ⟨by omega, by omega⟩]
  simp
theorem w_seqT {xs : List D} (h : W2 (f ρ S) fun d S1 => d = .tup xs ∧ S1 = S) : sSeq f ρ S = some (xs, none, S) := by
  obtain ⟨d, S1, e, rfl, rfl⟩ := h
  unfold sSeq
  rw [e]
theorem w_seqL {xs : List D} (h : W2 (f ρ S) fun d S1 => d = .lst xs ∧ S1 = S) : sSeq f ρ S = some (xs, none, S) := by
  obtain ⟨d, S1, e, rfl, rfl⟩ := h
  unfold sSeq
  rw [e]
theorem ex_rfl {α β : Type} {x : β} {g : α → β} {P : α → Prop} {a : α} (h : x = g a) (k : P a) : ∃ a, x = g a ∧ P a := ⟨a, h, k⟩
theorem sz_and {n : Nat} {P : Prop} (h : n ≤ sizeLine) (k : P) : n ≤ sizeLine ∧ P := ⟨h, k⟩
theorem lenT {xs : List D} : lenO S [.tup xs] = some (.int xs.length) := rfl
theorem lenLs {xs : List D} : lenO S [.lst xs] = some (.int xs.length) := rfl
/-! operations -/
variable {a b : Int} {x y : Str} {p q : Bool}
theorem o_add (k : Q1 (.int (a + b))) : W1 (addO S (.int a) (.int b)) Q1 := ⟨_, rfl, k⟩
theorem o_sub (k : Q1 (.int (a - b))) : W1 (subO S (.int a) (.int b)) Q1 := ⟨_, rfl, k⟩
theorem o_mul (h : CMul a b) (k : Q1 (.int (a * b))) : W1 (mulO S (.int a) (.int b)) Q1 := ⟨_, if_pos h, k⟩
theorem o_div (h : CDiv a b) (k : Q1 (.int (a / b))) : W1 (divO S (.int a) (.int b)) Q1 := ⟨_, if_pos h, k⟩
theorem o_mod (h : 0 < b) (k : Q1 (.int (a % b))) : W1 (modO S (.int a) (.int b)) Q1 := ⟨_, if_pos h, k⟩
theorem o_pow (h : CPow a b) (k : Q1 (.int (a ^ b.toNat))) : W1 (powO S (.int a) (.int b)) Q1 := ⟨_, if_pos h, k⟩
theorem o_lt (k : Q1 (.bl (decide (a < b)))) : W1 (ltO S (.int a) (.int b)) Q1 := ⟨_, rfl, k⟩
theorem o_le (k : Q1 (.bl (decide (a ≤ b)))) : W1 (leO S (.int a) (.int b)) Q1 := ⟨_, rfl, k⟩
theorem o_gt (k : Q1 (.bl (decide (b < a)))) : W1 (gtO S (.int a) (.int b)) Q1 := ⟨_, rfl, k⟩
theorem o_ge (k : Q1 (.bl (decide (b ≤ a)))) : W1 (geO S (.int a) (.int b)) Q1 := ⟨_, rfl, k⟩
theorem o_eqs (k : Q1 (.bl (x == y))) : W1 (eqO false S (.str x) (.str y)) Q1 := ⟨_, rfl, k⟩
theorem o_eqi (k : Q1 (.bl (decide (a = b)))) : W1 (eqO false S (.int a) (.int b)) Q1 := ⟨_, rfl, k⟩
theorem o_eqb (k : Q1 (.bl (p == q))) : W1 (eqO false S (.bl p) (.bl q)) Q1 := ⟨_, rfl, k⟩
theorem o_nes (k : Q1 (.bl (!(x == y)))) : W1 (eqO true S (.str x) (.str y)) Q1 := ⟨_, rfl, k⟩
theorem o_nei (k : Q1 (.bl (!decide (a = b)))) : W1 (eqO true S (.int a) (.int b)) Q1 := ⟨_, rfl, k⟩
theorem o_isnn {n : Bool} (k : Q1 (.bl (!n))) : W1 (isO n S .non .non) Q1 := ⟨_, rfl, k⟩
theorem o_isni {n : Bool} (k : Q1 (.bl n)) : W1 (isO n S (.int a) .non) Q1 := ⟨_, rfl, k⟩
theorem o_isns {n : Bool} (k : Q1 (.bl n)) : W1 (isO n S (.str x) .non) Q1 := ⟨_, rfl, k⟩
theorem o_min (k : Q1 (.int (min a b))) : W1 (minO S [.int a, .int b]) Q1 := ⟨_, rfl, by rw [show (if b < a then b else a) = min a b by omega]; exact k⟩
theorem o_int (k : Q1 (.int a)) : W1 (intOne S [.int a]) Q1 := ⟨_, rfl, k⟩
theorem o_lenT {xs : List D} (k : Q1 (.int xs.length)) : W1 (lenO S [.tup xs]) Q1 := ⟨_, rfl, k⟩
theorem o_lenL {xs : List D} (k : Q1 (.int xs.length)) : W1 (lenO S [.lst xs]) Q1 := ⟨_, rfl, k⟩
theorem o_neg (k : Q1 (.int (-a))) : W1 (negO (.int a)) Q1 := ⟨_, rfl, k⟩
end
end FS
set_option Elab.async false
set_option linter.all false
set_option maxRecDepth 100000
namespace Gn
open PySem PySem.Spec PyProof.Rows L2 FS
def b__law_reader : B := (cRet (cDisp (((cC (.str "cells")), (cOp listO (cCons (cSl (cVar 0) cNoP (cP (cC (.int 63)))) cNil))) :: (((cC (.str "spot")), (cC (.int 0))) :: (((cC (.str "rest")), (cC (.int 0))) :: (((cC (.str "calls")), (cC (.int 0))) :: []))))))
def F__law_reader : Fn := runFn 1 1 b__law_reader
def b__law_draw : B := (cSeq (cSet 2 (cBin addO (cDget (cVar 0) (cC (.str "calls"))) (cC (.int 1))))
    (cSeq (cDput (cVar 0) (cC (.str "calls")) (cVar 2))
    (cSeq (cIfS (cTest (cBin gtO (cDget (cVar 0) (cC (.str "rest"))) (cC (.int 0)))) (cSeq (cSet 3 (cBin modO (cOp intOne (cCons (cDget (cVar 0) (cC (.str "rest"))) cNil)) (cVar 1)))
    (cSeq (cDput (cVar 0) (cC (.str "rest")) (cBin divO (cDget (cVar 0) (cC (.str "rest"))) (cVar 1)))
    (cRet (cVar 3)))) cNx)
    (cSeq (cSet 4 (cDget (cVar 0) (cC (.str "spot"))))
    (cSeq (cDput (cVar 0) (cC (.str "spot")) (cBin addO (cVar 4) (cC (.int 1))))
    (cSeq (cSet 5 (cDget (cVar 0) (cC (.str "cells"))))
    (cSeq (cSet 6 (cIf (cTest (cBin gtO (cOp lenO (cCons (cVar 5) cNil)) (cC (.int 0)))) (cBin ixO (cVar 5) (cBin modO (cOp intOne (cCons (cVar 4) cNil)) (cOp lenO (cCons (cVar 5) cNil)))) (cC (.int 23))))
    (cSeq (cIfS (cAndT (cTest (cBin ltO (cVar 4) (cOp lenO (cCons (cVar 5) cNil)))) (cTest (cBin geO (cVar 6) (cBin powO (cC (.int 10)) (cC (.int 18)))))) (cSeq (cDput (cVar 0) (cC (.str "rest")) (cBin divO (cVar 6) (cVar 1)))
    (cRet (cBin modO (cOp intOne (cCons (cVar 6) cNil)) (cVar 1)))) cNx)
    (cSeq (cSet 7 (cBin modO (cOp intOne (cCons (cBin powO (cBin addO (cBin addO (cBin modO (cOp intOne (cCons (cVar 6) cNil)) (cC (.int 2147483629))) (cBin mulO (cC (.int 6131)) (cVar 2))) (cC (.int 37))) (cC (.int 5))) cNil)) (cC (.int 2147483647))))
    (cRet (cBin modO (cOp intOne (cCons (cBin divO (cBin modO (cOp intOne (cCons (cBin powO (cBin addO (cVar 7) (cBin mulO (cBin mulO (cC (.int 4177)) (cVar 2)) (cVar 2))) (cC (.int 5))) cNil)) (cC (.int 2147483587))) (cC (.int 32))) cNil)) (cVar 1))))))))))))
def F__law_draw : Fn := settled (runFn 2 8 b__law_draw)
def b__law_fills : B := (cRet (cIf (cTest (cBin (eqO false) (cBin ixO (cVar 0) (cC (.int 0))) (cC (.str "order")))) (cBin ixO (cVar 0) (cC (.int 5))) (cIf (cTest (cBin (eqO false) (cBin ixO (cVar 0) (cC (.int 0))) (cC (.str "prints")))) (cBin ixO (cVar 0) (cC (.int 1))) (cTup cNil))))
def F__law_fills : Fn := settled (runFn 1 1 b__law_fills)
def b__law_trades : B := (cSeq (cSet 3 (cNew cNil))
    (cSeq (cFor (sRng1 (cCons (cOp minO (cCons (cBin addO (cVar 1) (cC (.int 1))) (cCons (cOp lenO (cCons (cVar 0) cNil)) cNil))) cNil)) (gNm 4) (cSeq (cSet 5 (cBin ixO (cVar 0) (cVar 4)))
    (cSeq (cFor (sSeq (cSl (cCall F__law_fills [] (cCons (cVar 5) cNil)) cNoP (cP (cIf (cTest (cBin ltO (cVar 4) (cVar 1))) (cOp lenO (cCons (cCall F__law_fills [] (cCons (cVar 5) cNil)) cNil)) (cVar 2))))) (gTp ((gNm 6) :: ((gNm 7) :: ((gNm 8) :: [])))) (cSeq (cIfS (cTest (cBin (eqO false) (cBin ixO (cVar 5) (cC (.int 0))) (cC (.str "order")))) (cDrop (cMeth isL appendO (cVar 3) (cCons (cTup (cCons (cVar 4) (cCons (cVar 7) cNil))) cNil))) cNx)
    (cIfS (cTest (cBin (isO true) (cVar 8) (cC .non))) (cDrop (cMeth isL appendO (cVar 3) (cCons (cTup (cCons (cVar 8) (cCons (cVar 7) cNil))) cNil))) cNx)))
    (cIfS (cAndT (cTest (cBin (eqO false) (cBin ixO (cVar 5) (cC (.int 0))) (cC (.str "call")))) (cTest (cBin ltO (cVar 4) (cVar 1)))) (cDrop (cMeth isL extO (cVar 3) (cCons (cBin ixO (cVar 5) (cC (.int 2))) cNil))) cNx))))
    (cRet (cVar 3))))
def F__law_trades : Fn := settled (runFn 3 9 b__law_trades)
def b__law_rest : B := (cRet (cBin subO (cBin ixO (cBin ixO (cVar 0) (cVar 1)) (cC (.int 4))) (cOp sumO (cCons (cLc (sSeq (cCall F__law_trades [] (cCons (cVar 0) (cCons (cVar 2) (cCons (cVar 3) cNil))))) (gTp ((gNm 4) :: ((gNm 5) :: []))) (cTest (cBin (eqO false) (cVar 4) (cVar 1))) (cVar 5) [4, 5]) cNil))))
def F__law_rest : Fn := settled (runFn 4 6 b__law_rest)
def b__law_orders : B := (cRet (cLc (sRng1 (cCons (cOp lenO (cCons (cVar 0) cNil)) cNil)) (gNm 1) (cTest (cBin (eqO false) (cBin ixO (cBin ixO (cVar 0) (cVar 1)) (cC (.int 0))) (cC (.str "order")))) (cVar 1) [1]))
def F__law_orders : Fn := settled (runFn 1 2 b__law_orders)
def b__law_open : B := (cSeq (cSet 3 (cLc (sSeq (cSl (cVar 0) cNoP (cP (cVar 1)))) (gNm 8) (cTest (cBin (eqO false) (cBin ixO (cVar 8) (cC (.int 0))) (cC (.str "cancel")))) (cBin ixO (cVar 8) (cC (.int 1))) [8]))
    (cSeq (cSet 4 cDnew)
    (cSeq (cFor (sSeq (cCall F__law_trades [] (cCons (cVar 0) (cCons (cVar 1) (cCons (cVar 2) cNil))))) (gTp ((gNm 5) :: ((gNm 6) :: []))) (cDput (cVar 4) (cVar 5) (cBin addO (cDget2 (cVar 4) (cVar 5) (cC (.int 0))) (cVar 6))))
    (cSeq (cSet 7 (cLc (sSeq (cCall F__law_orders [] (cCons (cVar 0) cNil))) (gNm 5) (cAndT (cTest (cBin ltO (cVar 5) (cVar 1))) (cTest (cBin (inO true) (cVar 5) (cVar 3)))) (cVar 5) [5]))
    (cRet (cLc (sSeq (cVar 7)) (gNm 5) (cTest (cBin gtO (cBin ixO (cBin ixO (cVar 0) (cVar 5)) (cC (.int 4))) (cDget2 (cVar 4) (cVar 5) (cC (.int 0))))) (cVar 5) [5]))))))
def F__law_open : Fn := settled (runFn 3 9 b__law_open)
def b__law_is_shut : B := (cRet (cAnd (cBin gtO (cVar 1) (cC (.int 0))) (cAnd (cBin (eqO false) (cBin ixO (cVar 0) (cC (.int 0))) (cTup (cCons (cC (.str "closed")) cNil))) (cBin (eqO false) (cLc (sSeq (cSl (cVar 0) (cP (cC (.int 1))) (cP (cVar 1)))) (gNm 2) (cTest (cBin (eqO false) (cBin ixO (cVar 2) (cC (.int 0))) (cC (.str "call")))) (cVar 2) [2]) (cLst cNil)))))
def F__law_is_shut : Fn := settled (runFn 2 3 b__law_is_shut)
def b__law_new_fills : B := (cSeq (cPar 6 7 (cCons (cNew cNil) (cCons (cOp lenO (cCons (cVar 1) cNil)) cNil)))
    (cSeq (cFor (sRng1 (cCons (cCall F__law_draw [] (cCons (cVar 0) (cCons (cBin addO (cVar 2) (cC (.int 1))) cNil))) cNil)) (gNm 8) (cSeq (cSet 9 (cBin addO (cVar 1) (cLst (cCons (cTup (cCons (cC (.str "prints")) (cCons (cOp tupleO (cCons (cVar 6) cNil)) cNil))) cNil))))
    (cSeq (cSet 10 (cLc (sSeq (cCall F__law_open [] (cCons (cVar 9) (cCons (cVar 7) (cCons (cOp lenO (cCons (cVar 6) cNil)) cNil))))) (gNm 12) (cOrT (cTest (cBin (isO false) (cVar 4) (cC .non))) (cTest (cBin (eqO true) (cBin ixO (cBin ixO (cVar 1) (cVar 12)) (cC (.int 2))) (cVar 4)))) (cVar 12) [12]))
    (cSeq (cIfS (cTest (cBin (isO true) (cVar 4) (cC .non))) (cSet 10 (cLc (sSeq (cVar 10)) (gNm 12) (cTest (cBin leO (cBin mulO (cBin subO (cBin ixO (cBin ixO (cVar 1) (cVar 12)) (cC (.int 3))) (cVar 5)) (cIf (cTest (cBin (eqO false) (cVar 4) (cC (.str "buy")))) (cC (.int 1)) (cUn negO (cC (.int 1))))) (cC (.int 0)))) (cVar 12) [12])) cNx)
    (cSeq (cSet 11 (cBin subO (cVar 3) (cOp sumO (cCons (cLc (sSeq (cVar 6)) (gNm 15) cYes (cBin ixO (cVar 15) (cC (.int 1))) [15]) cNil))))
    (cSeq (cSet 12 (cIf (cAndT (cTest (cBin (eqO true) (cVar 10) (cLst cNil))) (cTest (cBin gtO (cCall F__law_draw [] (cCons (cVar 0) (cCons (cC (.int 4)) cNil))) (cC (.int 0))))) (cBin ixO (cVar 10) (cCall F__law_draw [] (cCons (cVar 0) (cCons (cOp lenO (cCons (cVar 10) cNil)) cNil)))) (cC .non)))
    (cSeq (cSet 13 (cIf (cTest (cBin (isO true) (cVar 12) (cC .non))) (cOp minO (cCons (cVar 11) (cCons (cCall F__law_rest [] (cCons (cVar 9) (cCons (cVar 12) (cCons (cVar 7) (cCons (cOp lenO (cCons (cVar 6) cNil)) cNil))))) cNil))) (cVar 11)))
    (cIfS (cTest (cBin gtO (cVar 13) (cC (.int 0)))) (cSeq (cSet 14 (cIf (cTest (cBin (isO true) (cVar 12) (cC .non))) (cBin ixO (cBin ixO (cVar 1) (cVar 12)) (cC (.int 3))) (cBin addO (cC (.int 8)) (cCall F__law_draw [] (cCons (cVar 0) (cCons (cC (.int 5)) cNil))))))
    (cSeq (cIfS (cAndT (cTest (cBin (isO false) (cVar 12) (cC .non))) (cTest (cBin (isO true) (cVar 4) (cC .non)))) (cSet 14 (cBin addO (cVar 5) (cBin mulO (cCall F__law_draw [] (cCons (cVar 0) (cCons (cC (.int 3)) cNil))) (cIf (cTest (cBin (eqO false) (cVar 4) (cC (.str "buy")))) (cUn negO (cC (.int 1))) (cC (.int 1)))))) cNx)
    (cDrop (cMeth isL appendO (cVar 6) (cCons (cTup (cCons (cVar 14) (cCons (cBin addO (cC (.int 1)) (cCall F__law_draw [] (cCons (cVar 0) (cCons (cOp minO (cCons (cVar 13) (cCons (cC (.int 3)) cNil))) cNil)))) (cCons (cVar 12) cNil)))) cNil))))) cNx))))))))
    (cRet (cOp tupleO (cCons (cVar 6) cNil)))))
def F__law_new_fills : Fn := settled (runFn 6 16 b__law_new_fills)
def b__law_new_row : B := (cSeq (cAsg (cTup (cCons (cOp lenO (cCons (cVar 1) cNil)) (cCons (cCall F__law_is_shut [] (cCons (cVar 1) (cCons (cOp lenO (cCons (cVar 1) cNil)) cNil))) cNil))) (gTp ((gNm 2) :: ((gNm 3) :: []))))
    (cSeq (cPar 4 5 (cCons (cCall F__law_open [] (cCons (cVar 1) (cCons (cVar 2) (cCons (cC (.int 0)) cNil)))) (cCons (cCall F__law_draw [] (cCons (cVar 0) (cCons (cC (.int 8)) cNil))) cNil)))
    (cSeq (cIfS (cAndT (cTest (cVar 3)) (cTest (cBin (eqO false) (cVar 5) (cC (.int 7))))) (cSeq (cSet 6 (cBin addO (cC (.int 8)) (cCall F__law_draw [] (cCons (cVar 0) (cCons (cC (.int 5)) cNil)))))
    (cSeq (cSet 7 (cLc (sSeq (cVar 4)) (gNm 13) (cOrT (cTest (cBin (eqO false) (cBin geO (cBin ixO (cBin ixO (cVar 1) (cVar 13)) (cC (.int 3))) (cVar 6)) (cBin (eqO false) (cBin ixO (cBin ixO (cVar 1) (cVar 13)) (cC (.int 2))) (cC (.str "buy"))))) (cTest (cBin (eqO false) (cBin ixO (cBin ixO (cVar 1) (cVar 13)) (cC (.int 3))) (cVar 6)))) (cVar 13) [13]))
    (cSeq (cSet 8 (cLc (sSeq (cSl3 (cVar 7) (cP (cCall F__law_draw [] (cCons (cVar 0) (cCons (cC (.int 2)) cNil)))) cNoP (cP (cC (.int 2))))) (gNm 13) cYes (cTup (cCons (cVar 13) (cCons (cBin addO (cC (.int 1)) (cCall F__law_draw [] (cCons (cVar 0) (cCons (cCall F__law_rest [] (cCons (cVar 1) (cCons (cVar 13) (cCons (cVar 2) (cCons (cC (.int 0)) cNil))))) cNil)))) cNil))) [13]))
    (cRet (cIf (cOrT (cTest (cBin (eqO true) (cVar 8) (cLst cNil))) (cTest (cBin (eqO false) (cCall F__law_draw [] (cCons (cVar 0) (cCons (cC (.int 2)) cNil))) (cC (.int 0))))) (cTup (cCons (cC (.str "call")) (cCons (cVar 6) (cCons (cOp tupleO (cCons (cVar 8) cNil)) cNil)))) (cTup (cCons (cC (.str "call")) (cCons (cC .non) (cCons (cTup cNil) cNil))))))))) cNx)
    (cSeq (cIfS (cAndT (cTest (cBin (eqO false) (cVar 5) (cC (.int 6)))) (cTest (cBin (eqO true) (cVar 4) (cLst cNil)))) (cRet (cTup (cCons (cC (.str "cancel")) (cCons (cBin ixO (cVar 4) (cCall F__law_draw [] (cCons (cVar 0) (cCons (cOp lenO (cCons (cVar 4) cNil)) cNil)))) cNil)))) cNx)
    (cSeq (cIfS (cTest (cBin gtO (cVar 5) (cC (.int 3)))) (cRet (cTup (cCons (cC (.str "prints")) (cCons (cIf (cTest (cVar 3)) (cTup cNil) (cCall F__law_new_fills [] (cCons (cVar 0) (cCons (cVar 1) (cCons (cC (.int 2)) (cCons (cC (.int 9)) (cCons (cC .non) (cCons (cC (.int 0)) cNil)))))))) cNil)))) cNx)
    (cSeq (cAsg (cTup (cCons (cBin ixO (cLst (cCons (cC (.str "buy")) (cCons (cC (.str "sell")) cNil))) (cCall F__law_draw [] (cCons (cVar 0) (cCons (cC (.int 2)) cNil)))) (cCons (cBin addO (cC (.int 8)) (cCall F__law_draw [] (cCons (cVar 0) (cCons (cC (.int 5)) cNil)))) cNil))) (gTp ((gNm 9) :: ((gNm 6) :: []))))
    (cSeq (cPar 10 11 (cCons (cBin addO (cC (.int 1)) (cCall F__law_draw [] (cCons (cVar 0) (cCons (cC (.int 6)) cNil)))) (cCons (cBin ixO (cLst (cCons (cC (.str "ann")) (cCons (cC (.str "bob")) (cCons (cC (.str "cy")) cNil)))) (cCall F__law_draw [] (cCons (cVar 0) (cCons (cC (.int 3)) cNil)))) cNil)))
    (cSeq (cSet 12 (cIf (cTest (cVar 3)) (cTup cNil) (cCall F__law_new_fills [] (cCons (cVar 0) (cCons (cVar 1) (cCons (cC (.int 2)) (cCons (cVar 10) (cCons (cVar 9) (cCons (cVar 6) cNil)))))))))
    (cRet (cTup (cCons (cC (.str "order")) (cCons (cVar 11) (cCons (cVar 9) (cCons (cVar 6) (cCons (cVar 10) (cCons (cVar 12) cNil))))))))))))))))
def F__law_new_row : Fn := settled (runFn 2 14 b__law_new_row)
def b__law_random_rows : B := (cSeq (cSet 2 (cIf (cTest (cBin (eqO false) (cCall F__law_draw [] (cCons (cVar 0) (cCons (cC (.int 3)) cNil))) (cC (.int 0)))) (cNew (cCons (cTup (cCons (cC (.str "closed")) cNil)) cNil)) (cNew cNil)))
    (cSeq (cFor (sRng1 (cCons (cCall F__law_draw [] (cCons (cVar 0) (cCons (cBin addO (cVar 1) (cC (.int 1))) cNil))) cNil)) (gNm 3) (cDrop (cMeth isL appendO (cVar 2) (cCons (cCall F__law_new_row [] (cCons (cVar 0) (cCons (cVar 2) cNil))) cNil))))
    (cRet (cVar 2))))
def F__law_random_rows : Fn := settled (runFn 2 4 b__law_random_rows)
def b__law_random_record : B := (cRet (cTup (cCons (cBin ixO (cLst (cCons (cC (.str "time")) (cCons (cC (.str "late")) (cCons (cC (.str "price")) cNil)))) (cCall F__law_draw [] (cCons (cVar 0) (cCons (cC (.int 3)) cNil)))) (cCons (cOp tupleO (cCons (cCall F__law_random_rows [] (cCons (cVar 0) (cCons (cVar 1) cNil))) cNil)) cNil))))
def F__law_random_record : Fn := settled (runFn 2 2 b__law_random_record)
def b__law_fixed_records : B := (cSeq (cSet 0 (cTup (cCons (cTup (cCons (cC (.str "order")) (cCons (cC (.str "ann")) (cCons (cC (.str "buy")) (cCons (cC (.int 10)) (cCons (cC (.int 3)) (cCons (cTup cNil) cNil))))))) (cCons (cTup (cCons (cC (.str "order")) (cCons (cC (.str "bob")) (cCons (cC (.str "buy")) (cCons (cC (.int 10)) (cCons (cC (.int 2)) (cCons (cTup cNil) cNil))))))) cNil))))
    (cSeq (cSet 0 (cBin addO (cVar 0) (cTup (cCons (cTup (cCons (cC (.str "prints")) (cCons (cTup (cCons (cTup (cCons (cC (.int 10)) (cCons (cC (.int 1)) (cCons (cC .non) cNil)))) (cCons (cTup (cCons (cC (.int 10)) (cCons (cC (.int 1)) (cCons (cC (.int 0)) cNil)))) cNil))) cNil))) (cCons (cTup (cCons (cC (.str "prints")) (cCons (cTup (cCons (cTup (cCons (cC (.int 10)) (cCons (cC (.int 1)) (cCons (cC .non) cNil)))) cNil)) cNil))) cNil)))))
    (cSeq (cSet 1 (cTup (cCons (cTup (cCons (cC (.str "closed")) cNil)) (cCons (cTup (cCons (cC (.str "order")) (cCons (cC (.str "ann")) (cCons (cC (.str "sell")) (cCons (cC (.int 9)) (cCons (cC (.int 4)) (cCons (cTup cNil) cNil))))))) (cCons (cTup (cCons (cC (.str "order")) (cCons (cC (.str "cy")) (cCons (cC (.str "buy")) (cCons (cC (.int 11)) (cCons (cC (.int 2)) (cCons (cTup cNil) cNil))))))) (cCons (cTup (cCons (cC (.str "prints")) (cCons (cTup cNil) cNil))) cNil))))))
    (cSeq (cSet 1 (cBin addO (cVar 1) (cTup (cCons (cTup (cCons (cC (.str "order")) (cCons (cC (.str "bob")) (cCons (cC (.str "sell")) (cCons (cC (.int 9)) (cCons (cC (.int 1)) (cCons (cTup cNil) cNil))))))) (cCons (cTup (cCons (cC (.str "call")) (cCons (cC (.int 10)) (cCons (cTup (cCons (cTup (cCons (cC (.int 1)) (cCons (cC (.int 1)) cNil))) (cCons (cTup (cCons (cC (.int 2)) (cCons (cC (.int 2)) cNil))) cNil))) cNil)))) (cCons (cTup (cCons (cC (.str "cancel")) (cCons (cC (.int 1)) cNil))) cNil))))))
    (cSeq (cSet 1 (cBin addO (cVar 1) (cTup (cCons (cTup (cCons (cC (.str "prints")) (cCons (cTup (cCons (cTup (cCons (cC (.int 9)) (cCons (cC (.int 1)) (cCons (cC (.int 4)) cNil)))) (cCons (cTup (cCons (cC (.int 12)) (cCons (cC (.int 3)) (cCons (cC .non) cNil)))) cNil))) cNil))) cNil))))
    (cSeq (cSet 2 (cTup (cCons (cTup (cCons (cC (.str "order")) (cCons (cC (.str "ann")) (cCons (cC (.str "sell")) (cCons (cC (.int 9)) (cCons (cC (.int 2)) (cCons (cTup cNil) cNil))))))) (cCons (cTup (cCons (cC (.str "order")) (cCons (cC (.str "bob")) (cCons (cC (.str "buy")) (cCons (cC (.int 9)) (cCons (cC (.int 5)) (cCons (cTup (cCons (cTup (cCons (cC (.int 8)) (cCons (cC (.int 1)) (cCons (cC .non) cNil)))) (cCons (cTup (cCons (cC (.int 9)) (cCons (cC (.int 2)) (cCons (cC (.int 0)) cNil)))) cNil))) cNil))))))) cNil))))
    (cSeq (cSet 2 (cBin addO (cVar 2) (cTup (cCons (cTup (cCons (cC (.str "order")) (cCons (cC (.str "ann")) (cCons (cC (.str "sell")) (cCons (cC (.int 9)) (cCons (cC (.int 1)) (cCons (cTup (cCons (cTup (cCons (cC (.int 9)) (cCons (cC (.int 1)) (cCons (cC (.int 1)) cNil)))) cNil)) cNil))))))) (cCons (cTup (cCons (cC (.str "cancel")) (cCons (cC (.int 1)) cNil))) (cCons (cTup (cCons (cC (.str "prints")) (cCons (cTup (cCons (cTup (cCons (cC (.int 7)) (cCons (cC (.int 1000)) (cCons (cC .non) cNil)))) cNil)) cNil))) cNil))))))
    (cRet (cNew (cCons (cTup (cCons (cC (.str "time")) (cCons (cVar 0) cNil))) (cCons (cTup (cCons (cC (.str "late")) (cCons (cVar 1) cNil))) (cCons (cTup (cCons (cC (.str "price")) (cCons (cVar 2) cNil))) (cCons (cTup (cCons (cC (.str "time")) (cCons (cTup cNil) cNil))) (cCons (cTup (cCons (cC (.str "late")) (cCons (cTup (cCons (cTup (cCons (cC (.str "closed")) cNil)) cNil)) cNil))) cNil))))))))))))))
def F__law_fixed_records : Fn := runFn 0 3 b__law_fixed_records
end Gn
set_option Elab.async false
set_option linter.all false
set_option maxRecDepth 100000
set_option maxHeartbeats 4000000
namespace Gn
open PySem PySem.Spec PyProof.Rows L2 FS
/-! ### equal, on single values -/
section
variable {S : Sto}
theorem eqs (n : Bool) (S : Sto) (a b : Str) : eqO n S (.str a) (.str b) = eqF n (a == b) := rfl
theorem eqi (n : Bool) (S : Sto) (a b : Int) : eqO n S (.int a) (.int b) = eqF n (decide (a = b)) := rfl
theorem eqb (n : Bool) (S : Sto) (a b : Bool) : eqO n S (.bl a) (.bl b) = eqF n (a == b) := rfl
theorem eqF_f (b : Bool) : eqF false b = some (.bl b) := rfl
theorem eqF_t (b : Bool) : eqF true b = some (.bl (!b)) := rfl
end
theorem tg_order_order : ((Str.ofString "order") == (Str.ofString "order")) = true := by decide +kernel
theorem tg_order_prints : ((Str.ofString "order") == (Str.ofString "prints")) = false := by decide +kernel
theorem tg_order_call : ((Str.ofString "order") == (Str.ofString "call")) = false := by decide +kernel
theorem tg_order_cancel : ((Str.ofString "order") == (Str.ofString "cancel")) = false := by decide +kernel
theorem tg_cancel_order : ((Str.ofString "cancel") == (Str.ofString "order")) = false := by decide +kernel
theorem tg_cancel_prints : ((Str.ofString "cancel") == (Str.ofString "prints")) = false := by decide +kernel
theorem tg_cancel_call : ((Str.ofString "cancel") == (Str.ofString "call")) = false := by decide +kernel
theorem tg_cancel_cancel : ((Str.ofString "cancel") == (Str.ofString "cancel")) = true := by decide +kernel
theorem tg_prints_order : ((Str.ofString "prints") == (Str.ofString "order")) = false := by decide +kernel
theorem tg_prints_prints : ((Str.ofString "prints") == (Str.ofString "prints")) = true := by decide +kernel
theorem tg_prints_call : ((Str.ofString "prints") == (Str.ofString "call")) = false := by decide +kernel
theorem tg_prints_cancel : ((Str.ofString "prints") == (Str.ofString "cancel")) = false := by decide +kernel
theorem tg_closed_order : ((Str.ofString "closed") == (Str.ofString "order")) = false := by decide +kernel
theorem tg_closed_prints : ((Str.ofString "closed") == (Str.ofString "prints")) = false := by decide +kernel
theorem tg_closed_call : ((Str.ofString "closed") == (Str.ofString "call")) = false := by decide +kernel
theorem tg_closed_cancel : ((Str.ofString "closed") == (Str.ofString "cancel")) = false := by decide +kernel
theorem tg_call_order : ((Str.ofString "call") == (Str.ofString "order")) = false := by decide +kernel
theorem tg_call_prints : ((Str.ofString "call") == (Str.ofString "prints")) = false := by decide +kernel
theorem tg_call_call : ((Str.ofString "call") == (Str.ofString "call")) = true := by decide +kernel
theorem tg_call_cancel : ((Str.ofString "call") == (Str.ofString "cancel")) = false := by decide +kernel
theorem tg_buy_buy : ((Str.ofString "buy") == (Str.ofString "buy")) = true := by decide +kernel
theorem tg_buy_sell : ((Str.ofString "buy") == (Str.ofString "sell")) = false := by decide +kernel
theorem tg_sell_buy : ((Str.ofString "sell") == (Str.ofString "buy")) = false := by decide +kernel
theorem tg_sell_sell : ((Str.ofString "sell") == (Str.ofString "sell")) = true := by decide +kernel
local macro_rules | `(tactic| walk_at "ev") => `(tactic| simp only [runFn, cSeq, cSet, cIfS, cRet, cRetN, cNx, cDrop, cVar, cC, cBin, cTest, cAndT, cOrT, cNotT, cAnd, cOr, cNot, cUn, cIf, cNil, cCons, cTup, cLst, cNew, cCall, cOp, cStar, cFmt, cJoined, cJs, cMeth, cSl, cP, cNoP, cPar, cAsg, cMatch, cCase, cLc, cFor, sSeq, cYes, cDget, cDget2, cDput, cDnew, wipeR, setAll, tGs.setAll, gTp, gNm, List.length_cons, List.length_nil, List.map_cons, List.map_nil, List.append_nil, List.cons_append, List.nil_append, List.replicate, List.getElem?_cons_zero, List.getElem?_cons_succ, List.set_cons_zero, List.set_cons_succ, Nat.reduceAdd, Nat.reduceSub, ite_true, ite_false, if_true, if_false, List.singleton_append, ix0, ix1, ix2, ix3, ix4, ix5, eqs, eqi, eqb, eqF_f, eqF_t, tg_order_order, tg_order_prints, tg_order_call, tg_order_cancel, tg_cancel_order, tg_cancel_prints, tg_cancel_call, tg_cancel_cancel, tg_prints_order, tg_prints_prints, tg_prints_call, tg_prints_cancel, tg_closed_order, tg_closed_prints, tg_closed_call, tg_closed_cancel, tg_call_order, tg_call_prints, tg_call_call, tg_call_cancel, tg_buy_buy, tg_buy_sell, tg_sell_buy, tg_sell_sell])

/-! ### rows as data -/
structure Fill where
  p : Int
  z : Int
  n : Option Int
def oD : Option Int → D
  | none => .non
  | some i => .int i
def Fill.d (f : Fill) : D := .tup [.int f.p, .int f.z, oD f.n]
def pD (q : Int × Int) : D := .tup [.int q.1, .int q.2]
inductive Row where
  | order (m s : Str) (p z : Int) (fs : List Fill)
  | cancel (n : Int)
  | prints (fs : List Fill)
  | closed
  | call (p : Option Int) (ps : List (Int × Int))
def Row.d : Row → D
  | .order m s p z fs => .tup [.str "order", .str m, .str s, .int p, .int z, .tup (fs.map Fill.d)]
  | .cancel n => .tup [.str "cancel", .int n]
  | .prints fs => .tup [.str "prints", .tup (fs.map Fill.d)]
  | .closed => .tup [.str "closed"]
  | .call p ps => .tup [.str "call", oD p, .tup (ps.map pD)]
theorem closedL_of {n : Nat} {α : Type} (g : α → D) (l : List α) (h : ∀ x ∈ l, FS.closed n (g x) = true) : closedL n (l.map g) = true := by
  rw [closedL_iff]
  intro d hd
  obtain ⟨x, hx, rfl⟩ := List.mem_map.mp hd
  exact h x hx
theorem closed_oD (n : Nat) : ∀ o : Option Int, FS.closed n (oD o) = true
  | none => rfl
  | some _ => rfl
theorem closed_fill (n : Nat) (f : Fill) : FS.closed n f.d = true := by
  unfold Fill.d
  simp only [FS.closed, closedL, closed_oD, Bool.and_self]
theorem closed_fills (n : Nat) (fs : List Fill) : closedL n (fs.map Fill.d) = true := closedL_of _ _ fun x _ => closed_fill n x
theorem closed_pairs (n : Nat) (ps : List (Int × Int)) : closedL n (ps.map pD) = true := closedL_of _ _ fun x _ => rfl
theorem closed_ints (n : Nat) (ps : List Int) : closedL n (ps.map D.int) = true := closedL_of _ _ fun x _ => rfl
theorem closed_row (n : Nat) (r : Row) : FS.closed n r.d = true := by
  cases r <;> simp only [Row.d, FS.closed, closedL, closed_oD, closed_fills, closed_pairs, Bool.and_self]
theorem closed_rows (n : Nat) (rs : List Row) : closedL n (rs.map Row.d) = true := closedL_of _ _ fun x _ => closed_row n x
/-! ### fills, trades -/
def fillsOf : Row → List Fill
  | .order _ _ _ _ fs => fs
  | .prints fs => fs
  | _ => []
theorem run_fills {r : Row} {S : Sto} (c : Clo S) : F__law_fills [r.d] S = some (.tup ((fillsOf r).map Fill.d), S) := by
  refine settled_same ?_ c (by simp only [FS.closed]; exact closed_fills _ _)
  cases r <;> (unfold b__law_fills Row.d fillsOf; try walk_at "ev")
  all_goals first | rfl | (rw [if_pos (Nat.zero_le _)]; rfl)
def isOrd : Row → Bool
  | .order .. => true
  | _ => false
def fillTr (s : Int) (r : Row) (f : Fill) : List (Int × Int) := (if isOrd r then [(s, f.z)] else []) ++ (match f.n with | some n => [(n, f.z)] | none => [])
def callPs : Row → List (Int × Int)
  | .call _ ps => ps
  | _ => []
/-- what is traded in the row s, up to the fill i of the row t -/
def rowTr (rows : List Row) (t i s : Nat) : List (Int × Int) := match rows[s]? with
  | some r => ((fillsOf r).take (if s < t then (fillsOf r).length else i)).flatMap (fillTr s r) ++ (if s < t then callPs r else [])
  | none => []
def tradesTo (rows : List Row) (t i k : Nat) : List (Int × Int) := (List.range k).flatMap (rowTr rows t i)
def tradesL (rows : List Row) (t i : Nat) : List (Int × Int) := tradesTo rows t i (min (t + 1) rows.length)
/-- short rows -/
def Short (rows : List Row) : Prop := rows.length ≤ 1000 ∧ ∀ r ∈ rows, (fillsOf r).length ≤ 1000 ∧ (callPs r).length ≤ 1000
theorem fillTr_len (s : Int) (r : Row) (f : Fill) : (fillTr s r f).length ≤ 2 := by
  unfold fillTr
  cases isOrd r <;> cases f.n <;> simp
theorem flatMap_len {α β : Type} (g : α → List β) (k : Nat) : ∀ (l : List α), (∀ x ∈ l, (g x).length ≤ k) → (l.flatMap g).length ≤ k * l.length
  | [], _ => by simp
  | x :: xs, h => by
    have h1 := h x List.mem_cons_self
    have h2 := flatMap_len g k xs fun y hy => h y (List.mem_cons_of_mem _ hy)
    rw [List.flatMap_cons, List.length_append, List.length_cons, Nat.mul_succ]
    omega
theorem rowTr_len {rows : List Row} (h : Short rows) (t i s : Nat) : (rowTr rows t i s).length ≤ 3000 := by
  unfold rowTr
  split
  · rename_i r e
    have hr := h.2 r (List.mem_of_getElem? e)
    rw [List.length_append]
    have h1 := flatMap_len (fillTr s r) 2 ((fillsOf r).take (if s < t then (fillsOf r).length else i)) fun x _ => fillTr_len s r x
    have h2 : ((fillsOf r).take (if s < t then (fillsOf r).length else i)).length ≤ 1000 := by rw [List.length_take]; omega
    have h3 : (if s < t then callPs r else []).length ≤ 1000 := by
      split
      · exact hr.2
      · simp
    omega
  · simp
theorem tradesTo_len {rows : List Row} (h : Short rows) (t i k : Nat) : (tradesTo rows t i k).length ≤ 3000 * k := by
  have := flatMap_len (rowTr rows t i) 3000 (List.range k) fun x _ => rowTr_len h t i x
  rw [List.length_range] at this
  exact this
theorem tradesTo_succ (rows : List Row) (t i k : Nat) : tradesTo rows t i (k + 1) = tradesTo rows t i k ++ rowTr rows t i k := by
  unfold tradesTo
  rw [List.range_succ, List.flatMap_append]
  simp
end Gn
set_option Elab.async false
set_option linter.all false
set_option maxRecDepth 100000
set_option maxHeartbeats 4000000
namespace Gn
open PySem PySem.Spec PyProof.Rows L2 FS
local macro_rules | `(tactic| walk_at "w") => `(tactic| first | (with_reducible refine w_seq ?_) | (with_reducible refine w_set ?_) | (with_reducible refine w_ret ?_) | (with_reducible refine w_drop ?_) | (with_reducible refine w_nx ?_) | (with_reducible refine w_bin ?_) | (with_reducible refine w_test ?_) | (with_reducible refine w_andT ?_) | (with_reducible refine w_orT ?_) | (with_reducible refine w_notT ?_) | (with_reducible refine w_and ?_) | (with_reducible refine w_nil ?_) | (with_reducible refine w_cons ?_) | (with_reducible refine w_op ?_) | (with_reducible refine w_call0 ?_) | (with_reducible refine w_sl ?_) | (with_reducible refine w_nop ?_) | (with_reducible refine w_p ?_) | (with_reducible refine w_yes ?_) | (with_reducible refine w_c ?_) | (with_reducible refine w_un ?_) | (with_reducible refine w_par ?_) | (with_reducible refine w_asg ?_) | (with_reducible refine w_ifs ?_) | (with_reducible refine w_if ?_) | (with_reducible refine o_add ?_) | (with_reducible refine o_sub ?_) | (with_reducible refine o_lt ?_) | (with_reducible refine o_le ?_) | (with_reducible refine o_gt ?_) | (with_reducible refine o_ge ?_) | (with_reducible refine o_eqs ?_) | (with_reducible refine o_eqi ?_) | (with_reducible refine o_eqb ?_) | (with_reducible refine o_nes ?_) | (with_reducible refine o_nei ?_) | (with_reducible refine o_isnn ?_) | (with_reducible refine o_isni ?_) | (with_reducible refine o_isns ?_) | (with_reducible refine o_min ?_) | (with_reducible refine o_int ?_) | (with_reducible refine o_neg ?_) | (with_reducible refine o_lenT ?_) | (with_reducible refine o_lenL ?_) | (with_reducible refine sq_nx ?_) | (with_reducible refine sq_rt ?_) | ((with_reducible apply w_var); focus exact rfl) | (with_reducible refine w_tup ?_) | (with_reducible refine w_lst ?_) | (with_reducible refine w_new ?_) | ((with_reducible refine sz_and ?_ ?_); focus (simp only [List.length_cons, List.length_nil, sL] <;> omega)) | (with_reducible refine w_meth ?_) | (with_reducible refine w_lc ?_) | (with_reducible refine w_dput ?_) | (with_reducible refine w_dget ?_) | (with_reducible refine w_dget2 ?_) | ((with_reducible apply ex_rfl); focus exact rfl) | (with_reducible refine o_mod (by decide) ?_))
local macro_rules | `(tactic| walk_at "v") => `(tactic| first | (with_reducible refine w_seq ?_) | (with_reducible refine w_set ?_) | (with_reducible refine w_ret ?_) | (with_reducible refine w_drop ?_) | (with_reducible refine w_nx ?_) | (with_reducible refine w_bin ?_) | (with_reducible refine w_test ?_) | (with_reducible refine w_andT ?_) | (with_reducible refine w_orT ?_) | (with_reducible refine w_notT ?_) | (with_reducible refine w_and ?_) | (with_reducible refine w_nil ?_) | (with_reducible refine w_cons ?_) | (with_reducible refine w_op ?_) | (with_reducible refine w_call0 ?_) | (with_reducible refine w_sl ?_) | (with_reducible refine w_nop ?_) | (with_reducible refine w_p ?_) | (with_reducible refine w_yes ?_) | (with_reducible refine w_c ?_) | (with_reducible refine w_un ?_) | (with_reducible refine w_par ?_) | (with_reducible refine w_asg ?_) | (with_reducible refine o_add ?_) | (with_reducible refine o_sub ?_) | (with_reducible refine o_lt ?_) | (with_reducible refine o_le ?_) | (with_reducible refine o_gt ?_) | (with_reducible refine o_ge ?_) | (with_reducible refine o_eqs ?_) | (with_reducible refine o_eqi ?_) | (with_reducible refine o_eqb ?_) | (with_reducible refine o_nes ?_) | (with_reducible refine o_nei ?_) | (with_reducible refine o_isnn ?_) | (with_reducible refine o_isni ?_) | (with_reducible refine o_isns ?_) | (with_reducible refine o_min ?_) | (with_reducible refine o_int ?_) | (with_reducible refine o_neg ?_) | (with_reducible refine o_lenT ?_) | (with_reducible refine o_lenL ?_) | (with_reducible refine sq_nx ?_) | (with_reducible refine sq_rt ?_) | ((with_reducible apply w_var); focus exact rfl) | (with_reducible refine w_tup ?_) | (with_reducible refine w_lst ?_) | (with_reducible refine w_new ?_) | ((with_reducible refine sz_and ?_ ?_); focus (simp only [List.length_cons, List.length_nil, sL] <;> omega)) | (with_reducible refine w_meth ?_) | (with_reducible refine w_lc ?_) | (with_reducible refine w_dput ?_) | (with_reducible refine w_dget ?_) | (with_reducible refine w_dget2 ?_) | ((with_reducible apply ex_rfl); focus exact rfl) | (with_reducible refine o_mod (by decide) ?_))
local macro_rules | `(tactic| walk_at "u") => `(tactic| first | (with_reducible refine w_seq ?_) | (with_reducible refine w_set ?_) | (with_reducible refine w_ret ?_) | (with_reducible refine w_drop ?_) | (with_reducible refine w_nx ?_) | (with_reducible refine w_bin ?_) | (with_reducible refine w_test ?_) | (with_reducible refine w_andT ?_) | (with_reducible refine w_orT ?_) | (with_reducible refine w_notT ?_) | (with_reducible refine w_and ?_) | (with_reducible refine w_nil ?_) | (with_reducible refine w_cons ?_) | (with_reducible refine w_op ?_) | (with_reducible refine w_call0 ?_) | (with_reducible refine w_sl ?_) | (with_reducible refine w_nop ?_) | (with_reducible refine w_p ?_) | (with_reducible refine w_yes ?_) | (with_reducible refine w_c ?_) | (with_reducible refine w_un ?_) | (with_reducible refine w_par ?_) | (with_reducible refine w_asg ?_) | (with_reducible refine o_add ?_) | (with_reducible refine o_sub ?_) | (with_reducible refine o_lt ?_) | (with_reducible refine o_le ?_) | (with_reducible refine o_gt ?_) | (with_reducible refine o_ge ?_) | (with_reducible refine o_eqs ?_) | (with_reducible refine o_eqi ?_) | (with_reducible refine o_eqb ?_) | (with_reducible refine o_nes ?_) | (with_reducible refine o_nei ?_) | (with_reducible refine o_isnn ?_) | (with_reducible refine o_isni ?_) | (with_reducible refine o_isns ?_) | (with_reducible refine o_min ?_) | (with_reducible refine o_int ?_) | (with_reducible refine o_neg ?_) | (with_reducible refine o_lenT ?_) | (with_reducible refine o_lenL ?_) | (with_reducible refine sq_nx ?_) | (with_reducible refine sq_rt ?_) | ((with_reducible apply w_var); focus exact rfl) | (with_reducible refine w_tup ?_) | (with_reducible refine w_lst ?_) | (with_reducible refine w_new ?_) | ((with_reducible refine sz_and ?_ ?_); focus (simp only [List.length_cons, List.length_nil, sL] <;> omega)) | (with_reducible refine w_meth ?_)  | (with_reducible refine w_dput ?_) | (with_reducible refine w_dget ?_) | (with_reducible refine w_dget2 ?_) | ((with_reducible apply ex_rfl); focus exact rfl) | (with_reducible refine o_mod (by decide) ?_))

/-- the tag of a row -/
def tag : Row → Str
  | .order .. => "order"
  | .cancel _ => "cancel"
  | .prints _ => "prints"
  | .closed => "closed"
  | .call .. => "call"
theorem tag_at (S : Sto) (r : Row) : ixO S r.d (.int 0) = some (.str (tag r)) := by
  cases r <;> exact ix0 ..
theorem tag_ord (r : Row) : (tag r == ("order" : Str)) = isOrd r := by
  cases r <;> (simp only [tag, isOrd]; decide +kernel)
def isCall : Row → Bool
  | .call .. => true
  | _ => false
theorem tag_call (r : Row) : (tag r == ("call" : Str)) = isCall r := by
  cases r <;> (simp only [tag, isCall]; decide +kernel)
def goneOf : Row → Option Int
  | .cancel n => some n
  | _ => none
theorem tag_cancel (r : Row) : (tag r == ("cancel" : Str)) = (goneOf r).isSome := by
  cases r <;> (simp only [tag, goneOf, Option.isSome]; decide +kernel)
theorem callPs_not {r : Row} (h : isCall r = false) : callPs r = [] := by
  cases r <;> first | rfl | cases h
theorem callPs_at {r : Row} (S : Sto) (h : isCall r = true) : ixO S r.d (.int 2) = some (.tup ((callPs r).map pD)) := by
  cases r <;> first | exact ix2 .. | cases h
theorem isO_oD (neg : Bool) (S : Sto) (n : Option Int) : isO neg S (oD n) .non = some (.bl (if n.isSome then neg else !neg)) := by
  cases n <;> rfl
theorem run_trades {rows : List Row} {rd : D} {t i : Nat} {S : Sto} (c : Clo S) (hs : Short rows) (hr : sqOf S rd = some (rows.map Row.d)) : F__law_trades [rd, .int t, .int i] S = some (.lst ((tradesL rows t i).map pD), S) := by
  have main : W2 (runFn 3 9 b__law_trades [rd, .int t, .int i] S) fun d S' => d = .ref S.length ∧ S' = S ++ [.lst ((tradesL rows t i).map pD)] := by
    refine w_run rfl ?_
    unfold b__law_trades
    repeat walk_at "w"
    have hmin : min ((t : Int) + 1) ((rows.map Row.d).length : Int) = ((min (t + 1) rows.length : Nat) : Int) := by rw [List.length_map]; omega
    have hr1 : ∀ u, sqOf (S ++ [u]) rd = some (rows.map Row.d) := fun u => sqOf_app hr
    repeat walk_at "w"
    refine w_forr (S1 := S ++ [.lst []]) (min (t + 1) rows.length) (fun k ρ S1 => (∃ x4 x5 x6 x7 x8, ρ = [some rd, some (.int t), some (.int i), some (.ref S.length), x4, x5, x6, x7, x8]) ∧ S1 = S ++ [.lst ((tradesTo rows t i k).map pD)]) ?_ ⟨⟨_, _, _, _, _, rfl⟩, rfl⟩ ?_ ?_
    · refine w_src ?_ (by have := hs.1; omega)
      repeat walk_at "w"
      refine w1 (lenO_sq (hr1 _)) ?_
      repeat walk_at "w"
      exact ⟨by rw [hmin], rfl⟩
    · rintro k hk ρ S1 ⟨⟨x4, x5, x6, x7, x8, rfl⟩, rfl⟩
      have hk2 : k < rows.length := by omega
      have er : rows[k]? = some rows[k] := List.getElem?_eq_getElem hk2
      generalize hR : rows[k] = r at er
      have hrl := hs.2 r (List.mem_of_getElem? er)
      have hacc := tradesTo_len hs t i k
      have hk3 : k ≤ 1000 := by have := hs.1; omega
      have cS : ∀ xs, Clo (S ++ [.lst (List.map pD xs)]) := fun xs => c.app (closed_pairs _ _)
      refine ⟨_, rfl, ?_⟩
      repeat walk_at "w"
      refine w1 ((ixO_sq (hr1 _) k).trans (by rw [List.getElem?_map, er]; rfl)) ?_
      repeat walk_at "w"
      refine w_fors (S1 := S ++ [.lst ((tradesTo rows t i k).map pD)]) Fill.d ((fillsOf r).take (if k < t then (fillsOf r).length else i)) none (fun pre ρ S1 => (∃ x6 x7 x8, ρ = [some rd, some (.int t), some (.int i), some (.ref S.length), some (.int k), some r.d, x6, x7, x8]) ∧ S1 = S ++ [.lst ((tradesTo rows t i k ++ pre.flatMap (fillTr k r)).map pD)]) ?_ ⟨⟨_, _, _, rfl⟩, by simp⟩ ?_ ?_
      · refine w_seqT ?_
        repeat walk_at "w"
        refine w2 (run_fills (cS _)) ?_
        repeat walk_at "w"
        refine ⟨fun h => ?_, fun h => ?_⟩
        · have h2 : k < t := by have := of_decide_eq_true h; omega
          repeat walk_at "w"
          refine w2 (run_fills (cS _)) ?_
          repeat walk_at "w"
          repeat walk_at "w"
          refine w1 (slice_to _ _ _) ?_
          refine ⟨?_, rfl⟩
          rw [if_pos h2, List.length_map, List.map_take]
        · have h2 : ¬ k < t := by have := of_decide_eq_false h; omega
          repeat walk_at "w"
          refine w1 (slice_to _ _ _) ?_
          refine ⟨?_, rfl⟩
          rw [if_neg h2, List.map_take]
      · rintro pre f post e ρ S1 ⟨⟨x6, x7, x8, rfl⟩, rfl⟩
        have hpre : pre.length ≤ 1000 := by
          have := congrArg List.length e
          rw [List.length_append, List.length_take] at this
          omega
        have hl : ∀ y, ((tradesTo rows t i k ++ pre.flatMap (fillTr k r)).map pD ++ [y]).length < sizeLine := by
          intro y
          have h2 := flatMap_len (fillTr k r) 2 pre fun x _ => fillTr_len k r x
          rw [List.length_append, List.length_map, List.length_append, sL, List.length_singleton]
          omega
        have hl0 : ((tradesTo rows t i k ++ pre.flatMap (fillTr k r)).map pD).length < sizeLine := by have := hl .non; rw [List.length_append, List.length_singleton] at this; omega
        refine ⟨_, rfl, ?_⟩
        have fin : ∀ ys, ys = (if isOrd r then [(((k : Nat) : Int), f.z)] else []) ++ (match f.n with | some n => [(n, f.z)] | none => []) → (tradesTo rows t i k ++ pre.flatMap (fillTr k r)).map pD ++ ys.map pD = (tradesTo rows t i k ++ (pre ++ [f]).flatMap (fillTr k r)).map pD := by
          intro ys e
          rw [List.flatMap_append, ← List.map_append, List.append_assoc]
          congr 2
          simp only [List.flatMap_cons, List.flatMap_nil, List.append_nil]
          rw [e]
          rfl
        have key : ∀ (xs : List D), xs.length < sizeLine → xs = (tradesTo rows t i k ++ pre.flatMap (fillTr k r)).map pD ++ (if isOrd r then [(((k : Nat) : Int), f.z)] else []).map pD → ∀ x6 x7 x8 : Option D, x7 = some (.int f.z) → x8 = some (oD f.n) → W3 ((cIfS (cTest (cBin (isO true) (cVar 8) (cC .non))) (cDrop (cMeth isL appendO (cVar 3) (cCons (cTup (cCons (cVar 8) (cCons (cVar 7) cNil))) cNil))) cNx) [some rd, some (.int t), some (.int i), some (.ref S.length), some (.int k), some r.d, x6, x7, x8] (S ++ [.lst xs]))
            fun fl ρ2 S2 => (fl = .nx ∨ fl = .ct) ∧ still (((fillsOf r).take (if k < t then (fillsOf r).length else i)).map Fill.d) none S2 = true ∧ (∃ x6 x7 x8, ρ2 = [some rd, some (.int t), some (.int i), some (.ref S.length), some (.int k), some r.d, x6, x7, x8]) ∧ S2 = S ++ [.lst ((tradesTo rows t i k ++ (pre ++ [f]).flatMap (fillTr k r)).map pD)] := by
          rintro xs hx ex x6 x7 x8 rfl rfl
          repeat walk_at "w"
          refine w1 (isO_oD _ _ _) ?_
          repeat walk_at "w"
          cases hn : f.n with
          | none =>
            refine ⟨fun h => by simp at h, fun _ => ?_⟩
            repeat walk_at "w"
            refine ⟨.inl rfl, rfl, ⟨_, _, _, rfl⟩, ?_⟩
            rw [← fin (if isOrd r then [(((k : Nat) : Int), f.z)] else []) (by rw [hn, List.append_nil]), ← ex]
          | some n =>
            refine ⟨fun _ => ?_, fun h => by simp at h⟩
            repeat walk_at "w"
            refine ⟨isL_at (ap_at _), ?_⟩
            repeat walk_at "w"
            refine w2 (app_to (ap_at _) hx) ?_
            refine ⟨.inl rfl, rfl, ⟨_, _, _, rfl⟩, ?_⟩
            rw [ap_set, ex, List.append_assoc, ← fin ((if isOrd r then [(((k : Nat) : Int), f.z)] else []) ++ [(n, f.z)]) (by rw [hn])]
            simp only [List.map_append, List.map_cons, List.map_nil, pD, oD]
        refine w_mid (fun ρ1 S1 => ∃ xs, ρ1 = [some rd, some (.int t), some (.int i), some (.ref S.length), some (.int k), some r.d, some (.int f.p), some (.int f.z), some (oD f.n)] ∧ S1 = S ++ [.lst xs] ∧ xs.length < sizeLine ∧ xs = (tradesTo rows t i k ++ pre.flatMap (fillTr k r)).map pD ++ (if isOrd r then [(((k : Nat) : Int), f.z)] else []).map pD) ?_ ?_
        · repeat walk_at "w"
          refine w1 (tag_at _ r) ?_
          repeat walk_at "w"
          rw [tag_ord]
          refine ⟨fun h => ?_, fun h => ?_⟩
          · repeat walk_at "w"
            refine ⟨isL_at (ap_at _), ?_⟩
            repeat walk_at "w"
            refine w2 (app_to (ap_at _) hl0) ?_
            exact ⟨rfl, _, rfl, ap_set _ _, hl _, by rw [if_pos h]; rfl⟩
          · repeat walk_at "w"
            exact ⟨rfl, _, rfl, rfl, hl0, by rw [if_neg (by rw [h]; exact Bool.false_ne_true), List.map_nil, List.append_nil]⟩
        · rintro ρ1 S1 ⟨xs, rfl, rfl, hx, ex⟩
          exact key _ hx ex _ _ _ rfl rfl
      · rintro ρ' S' ⟨⟨x6, x7, x8, rfl⟩, rfl⟩
        have er2 : rowTr rows t i k = ((fillsOf r).take (if k < t then (fillsOf r).length else i)).flatMap (fillTr k r) ++ (if k < t then callPs r else []) := by
          unfold rowTr
          rw [er]
        have fin : (k < t → callPs r = []) → S ++ [MO.lst (List.map pD (tradesTo rows t i k ++ List.flatMap (fillTr k r) (List.take (if k < t then (fillsOf r).length else i) (fillsOf r))))] = S ++ [.lst ((tradesTo rows t i (k + 1)).map pD)] := by
          intro h
          rw [tradesTo_succ, er2]
          by_cases hk : k < t
          · rw [if_pos hk, if_pos hk, h hk, List.append_nil]
          · rw [if_neg hk, if_neg hk, List.append_nil]
        repeat walk_at "w"
        refine w1 (tag_at _ r) ?_
        repeat walk_at "w"
        rw [tag_call]
        refine ⟨fun h => ?_, fun h => ?_⟩
        · repeat walk_at "w"
          refine ⟨fun h2 => ?_, fun h2 => ?_⟩
          · have hk2 : k < t := by have := of_decide_eq_true h2; omega
            repeat walk_at "w"
            refine ⟨isL_at (ap_at _), ?_⟩
            repeat walk_at "w"
            refine w1 (callPs_at _ h) ?_
            repeat walk_at "w"
            have h3 := rowTr_len hs t i k
            refine w2 (ext_to (ap_at _) ?_) ?_
            · rw [er2, if_pos hk2, if_pos hk2] at h3
              rw [if_pos hk2]
              simp only [List.length_append, List.length_map] at h3 ⊢
              rw [sL]
              omega
            · refine ⟨.inl rfl, ⟨_, _, _, _, _, rfl⟩, ?_⟩
              rw [ap_set, tradesTo_succ, er2, if_pos hk2, if_pos hk2, ← List.map_append, List.append_assoc]
          · have hk2 : ¬ k < t := by have := of_decide_eq_false h2; omega
            repeat walk_at "w"
            exact ⟨.inl rfl, ⟨_, _, _, _, _, rfl⟩, fin fun h => absurd h hk2⟩
        · refine ⟨fun h => by simp at h, fun _ => ?_⟩
          repeat walk_at "w"
          exact ⟨.inl rfl, ⟨_, _, _, _, _, rfl⟩, fin fun _ => callPs_not h⟩
    · rintro ρ' S' ⟨⟨x4, x5, x6, x7, x8, rfl⟩, rfl⟩
      repeat walk_at "w"
      exact ⟨rfl, rfl⟩
  obtain ⟨d, S', e, rfl, rfl⟩ := main
  exact settled_lst e rfl c (Nat.le_refl _) (ap_at _) (closed_pairs _ _)
end Gn
set_option Elab.async false
set_option linter.all false
set_option maxRecDepth 100000
set_option maxHeartbeats 4000000
namespace Gn
open PySem PySem.Spec PyProof.Rows L2 FS
local macro_rules | `(tactic| walk_at "w") => `(tactic| first | (with_reducible refine w_seq ?_) | (with_reducible refine w_set ?_) | (with_reducible refine w_ret ?_) | (with_reducible refine w_drop ?_) | (with_reducible refine w_nx ?_) | (with_reducible refine w_bin ?_) | (with_reducible refine w_test ?_) | (with_reducible refine w_andT ?_) | (with_reducible refine w_orT ?_) | (with_reducible refine w_notT ?_) | (with_reducible refine w_and ?_) | (with_reducible refine w_nil ?_) | (with_reducible refine w_cons ?_) | (with_reducible refine w_op ?_) | (with_reducible refine w_call0 ?_) | (with_reducible refine w_sl ?_) | (with_reducible refine w_nop ?_) | (with_reducible refine w_p ?_) | (with_reducible refine w_yes ?_) | (with_reducible refine w_c ?_) | (with_reducible refine w_un ?_) | (with_reducible refine w_par ?_) | (with_reducible refine w_asg ?_) | (with_reducible refine w_ifs ?_) | (with_reducible refine w_if ?_) | (with_reducible refine o_add ?_) | (with_reducible refine o_sub ?_) | (with_reducible refine o_lt ?_) | (with_reducible refine o_le ?_) | (with_reducible refine o_gt ?_) | (with_reducible refine o_ge ?_) | (with_reducible refine o_eqs ?_) | (with_reducible refine o_eqi ?_) | (with_reducible refine o_eqb ?_) | (with_reducible refine o_nes ?_) | (with_reducible refine o_nei ?_) | (with_reducible refine o_isnn ?_) | (with_reducible refine o_isni ?_) | (with_reducible refine o_isns ?_) | (with_reducible refine o_min ?_) | (with_reducible refine o_int ?_) | (with_reducible refine o_neg ?_) | (with_reducible refine o_lenT ?_) | (with_reducible refine o_lenL ?_) | (with_reducible refine sq_nx ?_) | (with_reducible refine sq_rt ?_) | ((with_reducible apply w_var); focus exact rfl) | (with_reducible refine w_tup ?_) | (with_reducible refine w_lst ?_) | (with_reducible refine w_new ?_) | ((with_reducible refine sz_and ?_ ?_); focus (simp only [List.length_cons, List.length_nil, sL] <;> omega)) | (with_reducible refine w_meth ?_) | (with_reducible refine w_lc ?_) | (with_reducible refine w_dput ?_) | (with_reducible refine w_dget ?_) | (with_reducible refine w_dget2 ?_) | ((with_reducible apply ex_rfl); focus exact rfl) | (with_reducible refine o_mod (by decide) ?_))
local macro_rules | `(tactic| walk_at "v") => `(tactic| first | (with_reducible refine w_seq ?_) | (with_reducible refine w_set ?_) | (with_reducible refine w_ret ?_) | (with_reducible refine w_drop ?_) | (with_reducible refine w_nx ?_) | (with_reducible refine w_bin ?_) | (with_reducible refine w_test ?_) | (with_reducible refine w_andT ?_) | (with_reducible refine w_orT ?_) | (with_reducible refine w_notT ?_) | (with_reducible refine w_and ?_) | (with_reducible refine w_nil ?_) | (with_reducible refine w_cons ?_) | (with_reducible refine w_op ?_) | (with_reducible refine w_call0 ?_) | (with_reducible refine w_sl ?_) | (with_reducible refine w_nop ?_) | (with_reducible refine w_p ?_) | (with_reducible refine w_yes ?_) | (with_reducible refine w_c ?_) | (with_reducible refine w_un ?_) | (with_reducible refine w_par ?_) | (with_reducible refine w_asg ?_) | (with_reducible refine o_add ?_) | (with_reducible refine o_sub ?_) | (with_reducible refine o_lt ?_) | (with_reducible refine o_le ?_) | (with_reducible refine o_gt ?_) | (with_reducible refine o_ge ?_) | (with_reducible refine o_eqs ?_) | (with_reducible refine o_eqi ?_) | (with_reducible refine o_eqb ?_) | (with_reducible refine o_nes ?_) | (with_reducible refine o_nei ?_) | (with_reducible refine o_isnn ?_) | (with_reducible refine o_isni ?_) | (with_reducible refine o_isns ?_) | (with_reducible refine o_min ?_) | (with_reducible refine o_int ?_) | (with_reducible refine o_neg ?_) | (with_reducible refine o_lenT ?_) | (with_reducible refine o_lenL ?_) | (with_reducible refine sq_nx ?_) | (with_reducible refine sq_rt ?_) | ((with_reducible apply w_var); focus exact rfl) | (with_reducible refine w_tup ?_) | (with_reducible refine w_lst ?_) | (with_reducible refine w_new ?_) | ((with_reducible refine sz_and ?_ ?_); focus (simp only [List.length_cons, List.length_nil, sL] <;> omega)) | (with_reducible refine w_meth ?_) | (with_reducible refine w_lc ?_) | (with_reducible refine w_dput ?_) | (with_reducible refine w_dget ?_) | (with_reducible refine w_dget2 ?_) | ((with_reducible apply ex_rfl); focus exact rfl) | (with_reducible refine o_mod (by decide) ?_))
local macro_rules | `(tactic| walk_at "u") => `(tactic| first | (with_reducible refine w_seq ?_) | (with_reducible refine w_set ?_) | (with_reducible refine w_ret ?_) | (with_reducible refine w_drop ?_) | (with_reducible refine w_nx ?_) | (with_reducible refine w_bin ?_) | (with_reducible refine w_test ?_) | (with_reducible refine w_andT ?_) | (with_reducible refine w_orT ?_) | (with_reducible refine w_notT ?_) | (with_reducible refine w_and ?_) | (with_reducible refine w_nil ?_) | (with_reducible refine w_cons ?_) | (with_reducible refine w_op ?_) | (with_reducible refine w_call0 ?_) | (with_reducible refine w_sl ?_) | (with_reducible refine w_nop ?_) | (with_reducible refine w_p ?_) | (with_reducible refine w_yes ?_) | (with_reducible refine w_c ?_) | (with_reducible refine w_un ?_) | (with_reducible refine w_par ?_) | (with_reducible refine w_asg ?_) | (with_reducible refine o_add ?_) | (with_reducible refine o_sub ?_) | (with_reducible refine o_lt ?_) | (with_reducible refine o_le ?_) | (with_reducible refine o_gt ?_) | (with_reducible refine o_ge ?_) | (with_reducible refine o_eqs ?_) | (with_reducible refine o_eqi ?_) | (with_reducible refine o_eqb ?_) | (with_reducible refine o_nes ?_) | (with_reducible refine o_nei ?_) | (with_reducible refine o_isnn ?_) | (with_reducible refine o_isni ?_) | (with_reducible refine o_isns ?_) | (with_reducible refine o_min ?_) | (with_reducible refine o_int ?_) | (with_reducible refine o_neg ?_) | (with_reducible refine o_lenT ?_) | (with_reducible refine o_lenL ?_) | (with_reducible refine sq_nx ?_) | (with_reducible refine sq_rt ?_) | ((with_reducible apply w_var); focus exact rfl) | (with_reducible refine w_tup ?_) | (with_reducible refine w_lst ?_) | (with_reducible refine w_new ?_) | ((with_reducible refine sz_and ?_ ?_); focus (simp only [List.length_cons, List.length_nil, sL] <;> omega)) | (with_reducible refine w_meth ?_)  | (with_reducible refine w_dput ?_) | (with_reducible refine w_dget ?_) | (with_reducible refine w_dget2 ?_) | ((with_reducible apply ex_rfl); focus exact rfl) | (with_reducible refine o_mod (by decide) ?_))
theorem kk_cells_cells : decide ((Sum.inr (Str.ofString "cells") : Key) = Sum.inr (Str.ofString "cells")) = true := by decide +kernel
theorem kk_cells_spot : decide ((Sum.inr (Str.ofString "cells") : Key) = Sum.inr (Str.ofString "spot")) = false := by decide +kernel
theorem kk_cells_rest : decide ((Sum.inr (Str.ofString "cells") : Key) = Sum.inr (Str.ofString "rest")) = false := by decide +kernel
theorem kk_cells_calls : decide ((Sum.inr (Str.ofString "cells") : Key) = Sum.inr (Str.ofString "calls")) = false := by decide +kernel
theorem kk_spot_cells : decide ((Sum.inr (Str.ofString "spot") : Key) = Sum.inr (Str.ofString "cells")) = false := by decide +kernel
theorem kk_spot_spot : decide ((Sum.inr (Str.ofString "spot") : Key) = Sum.inr (Str.ofString "spot")) = true := by decide +kernel
theorem kk_spot_rest : decide ((Sum.inr (Str.ofString "spot") : Key) = Sum.inr (Str.ofString "rest")) = false := by decide +kernel
theorem kk_spot_calls : decide ((Sum.inr (Str.ofString "spot") : Key) = Sum.inr (Str.ofString "calls")) = false := by decide +kernel
theorem kk_rest_cells : decide ((Sum.inr (Str.ofString "rest") : Key) = Sum.inr (Str.ofString "cells")) = false := by decide +kernel
theorem kk_rest_spot : decide ((Sum.inr (Str.ofString "rest") : Key) = Sum.inr (Str.ofString "spot")) = false := by decide +kernel
theorem kk_rest_rest : decide ((Sum.inr (Str.ofString "rest") : Key) = Sum.inr (Str.ofString "rest")) = true := by decide +kernel
theorem kk_rest_calls : decide ((Sum.inr (Str.ofString "rest") : Key) = Sum.inr (Str.ofString "calls")) = false := by decide +kernel
theorem kk_calls_cells : decide ((Sum.inr (Str.ofString "calls") : Key) = Sum.inr (Str.ofString "cells")) = false := by decide +kernel
theorem kk_calls_spot : decide ((Sum.inr (Str.ofString "calls") : Key) = Sum.inr (Str.ofString "spot")) = false := by decide +kernel
theorem kk_calls_rest : decide ((Sum.inr (Str.ofString "calls") : Key) = Sum.inr (Str.ofString "rest")) = false := by decide +kernel
theorem kk_calls_calls : decide ((Sum.inr (Str.ofString "calls") : Key) = Sum.inr (Str.ofString "calls")) = true := by decide +kernel
theorem ks_cells_spot : ¬ (Str.ofString "cells" = Str.ofString "spot") := by decide +kernel
theorem kn_cells_spot : ¬ ((Sum.inr (Str.ofString "cells") : Key) = Sum.inr (Str.ofString "spot")) := of_decide_eq_false kk_cells_spot
theorem ks_cells_rest : ¬ (Str.ofString "cells" = Str.ofString "rest") := by decide +kernel
theorem kn_cells_rest : ¬ ((Sum.inr (Str.ofString "cells") : Key) = Sum.inr (Str.ofString "rest")) := of_decide_eq_false kk_cells_rest
theorem ks_cells_calls : ¬ (Str.ofString "cells" = Str.ofString "calls") := by decide +kernel
theorem kn_cells_calls : ¬ ((Sum.inr (Str.ofString "cells") : Key) = Sum.inr (Str.ofString "calls")) := of_decide_eq_false kk_cells_calls
theorem ks_spot_cells : ¬ (Str.ofString "spot" = Str.ofString "cells") := by decide +kernel
theorem kn_spot_cells : ¬ ((Sum.inr (Str.ofString "spot") : Key) = Sum.inr (Str.ofString "cells")) := of_decide_eq_false kk_spot_cells
theorem ks_spot_rest : ¬ (Str.ofString "spot" = Str.ofString "rest") := by decide +kernel
theorem kn_spot_rest : ¬ ((Sum.inr (Str.ofString "spot") : Key) = Sum.inr (Str.ofString "rest")) := of_decide_eq_false kk_spot_rest
theorem ks_spot_calls : ¬ (Str.ofString "spot" = Str.ofString "calls") := by decide +kernel
theorem kn_spot_calls : ¬ ((Sum.inr (Str.ofString "spot") : Key) = Sum.inr (Str.ofString "calls")) := of_decide_eq_false kk_spot_calls
theorem ks_rest_cells : ¬ (Str.ofString "rest" = Str.ofString "cells") := by decide +kernel
theorem kn_rest_cells : ¬ ((Sum.inr (Str.ofString "rest") : Key) = Sum.inr (Str.ofString "cells")) := of_decide_eq_false kk_rest_cells
theorem ks_rest_spot : ¬ (Str.ofString "rest" = Str.ofString "spot") := by decide +kernel
theorem kn_rest_spot : ¬ ((Sum.inr (Str.ofString "rest") : Key) = Sum.inr (Str.ofString "spot")) := of_decide_eq_false kk_rest_spot
theorem ks_rest_calls : ¬ (Str.ofString "rest" = Str.ofString "calls") := by decide +kernel
theorem kn_rest_calls : ¬ ((Sum.inr (Str.ofString "rest") : Key) = Sum.inr (Str.ofString "calls")) := of_decide_eq_false kk_rest_calls
theorem ks_calls_cells : ¬ (Str.ofString "calls" = Str.ofString "cells") := by decide +kernel
theorem kn_calls_cells : ¬ ((Sum.inr (Str.ofString "calls") : Key) = Sum.inr (Str.ofString "cells")) := of_decide_eq_false kk_calls_cells
theorem ks_calls_spot : ¬ (Str.ofString "calls" = Str.ofString "spot") := by decide +kernel
theorem kn_calls_spot : ¬ ((Sum.inr (Str.ofString "calls") : Key) = Sum.inr (Str.ofString "spot")) := of_decide_eq_false kk_calls_spot
theorem ks_calls_rest : ¬ (Str.ofString "calls" = Str.ofString "rest") := by decide +kernel
theorem kn_calls_rest : ¬ ((Sum.inr (Str.ofString "calls") : Key) = Sum.inr (Str.ofString "rest")) := of_decide_eq_false kk_calls_rest

/-- the reader -/
def rk (cs : D) (spot rest calls : Int) : List (Key × D) := [(.inr "cells", cs), (.inr "spot", .int spot), (.inr "rest", .int rest), (.inr "calls", .int calls)]
section
variable {cs : D} {spot rest calls v : Int}
theorem get_cells : valD (rk cs spot rest calls) (.inr "cells") = some cs := by simp only [valD, rk, List.find?, kk_cells_cells, kk_cells_spot, kk_cells_rest, kk_cells_calls, kk_spot_cells, kk_spot_spot, kk_spot_rest, kk_spot_calls, kk_rest_cells, kk_rest_spot, kk_rest_rest, kk_rest_calls, kk_calls_cells, kk_calls_spot, kk_calls_rest, kk_calls_calls, Option.map, decide_true]
theorem get_spot : valD (rk cs spot rest calls) (.inr "spot") = some (.int spot) := by simp only [valD, rk, List.find?, kk_cells_cells, kk_cells_spot, kk_cells_rest, kk_cells_calls, kk_spot_cells, kk_spot_spot, kk_spot_rest, kk_spot_calls, kk_rest_cells, kk_rest_spot, kk_rest_rest, kk_rest_calls, kk_calls_cells, kk_calls_spot, kk_calls_rest, kk_calls_calls, Option.map, decide_true]
theorem get_rest : valD (rk cs spot rest calls) (.inr "rest") = some (.int rest) := by simp only [valD, rk, List.find?, kk_cells_cells, kk_cells_spot, kk_cells_rest, kk_cells_calls, kk_spot_cells, kk_spot_spot, kk_spot_rest, kk_spot_calls, kk_rest_cells, kk_rest_spot, kk_rest_rest, kk_rest_calls, kk_calls_cells, kk_calls_spot, kk_calls_rest, kk_calls_calls, Option.map, decide_true]
theorem get_calls : valD (rk cs spot rest calls) (.inr "calls") = some (.int calls) := by simp only [valD, rk, List.find?, kk_cells_cells, kk_cells_spot, kk_cells_rest, kk_cells_calls, kk_spot_cells, kk_spot_spot, kk_spot_rest, kk_spot_calls, kk_rest_cells, kk_rest_spot, kk_rest_rest, kk_rest_calls, kk_calls_cells, kk_calls_spot, kk_calls_rest, kk_calls_calls, Option.map, decide_true]
theorem put_spot : putD (rk cs spot rest calls) (.inr "spot") (.int v) = rk cs v rest calls := by simp [putD, rk, kk_cells_cells, kk_cells_spot, kk_cells_rest, kk_cells_calls, kk_spot_cells, kk_spot_spot, kk_spot_rest, kk_spot_calls, kk_rest_cells, kk_rest_spot, kk_rest_rest, kk_rest_calls, kk_calls_cells, kk_calls_spot, kk_calls_rest, kk_calls_calls, ks_cells_spot, ks_cells_rest, ks_cells_calls, ks_spot_cells, ks_spot_rest, ks_spot_calls, ks_rest_cells, ks_rest_spot, ks_rest_calls, ks_calls_cells, ks_calls_spot, ks_calls_rest]
theorem put_rest : putD (rk cs spot rest calls) (.inr "rest") (.int v) = rk cs spot v calls := by simp [putD, rk, kk_cells_cells, kk_cells_spot, kk_cells_rest, kk_cells_calls, kk_spot_cells, kk_spot_spot, kk_spot_rest, kk_spot_calls, kk_rest_cells, kk_rest_spot, kk_rest_rest, kk_rest_calls, kk_calls_cells, kk_calls_spot, kk_calls_rest, kk_calls_calls, ks_cells_spot, ks_cells_rest, ks_cells_calls, ks_spot_cells, ks_spot_rest, ks_spot_calls, ks_rest_cells, ks_rest_spot, ks_rest_calls, ks_calls_cells, ks_calls_spot, ks_calls_rest]
theorem put_calls : putD (rk cs spot rest calls) (.inr "calls") (.int v) = rk cs spot rest v := by simp [putD, rk, kk_cells_cells, kk_cells_spot, kk_cells_rest, kk_cells_calls, kk_spot_cells, kk_spot_spot, kk_spot_rest, kk_spot_calls, kk_rest_cells, kk_rest_spot, kk_rest_rest, kk_rest_calls, kk_calls_cells, kk_calls_spot, kk_calls_rest, kk_calls_calls, ks_cells_spot, ks_cells_rest, ks_cells_calls, ks_spot_cells, ks_spot_rest, ks_spot_calls, ks_rest_cells, ks_rest_spot, ks_rest_calls, ks_calls_cells, ks_calls_spot, ks_calls_rest]
theorem rk_len : (rk cs spot rest calls).length < sizeLine := by rw [sL]; exact (by decide : 4 < 16777216)
end
theorem set_at {S : Sto} {r : Nat} {u v : MO} (h : S[r]? = some u) : (S.set r v)[r]? = some v := by
  rw [List.getElem?_set_self (List.getElem?_eq_some_iff.mp h).1]
/-- a reader that has made at most c calls -/
def RdM (u : MO) (c : Nat) : Prop := ∃ (cells : List Int) (spot : Nat) (rest : Int) (calls : Nat), u = .dct (rk (.lst (cells.map .int)) spot rest calls) ∧ 0 ≤ rest ∧ calls ≤ c
theorem RdM.mono {u : MO} {c c' : Nat} (h : RdM u c) (hc : c ≤ c') : RdM u c' := by
  obtain ⟨a, b, r, n, e, h1, h2⟩ := h
  exact ⟨a, b, r, n, e, h1, by omega⟩
theorem closed_rk {n : Nat} {cells : List Int} {spot rest calls : Int} : closedM n (.dct (rk (.lst (cells.map .int)) spot rest calls)) = true := by
  show closedL n [.lst (cells.map .int), .int spot, .int rest, .int calls] = true
  simp only [closedL, FS.closed, Bool.and_self, Bool.and_true]
  exact closed_ints _ _
theorem RdM.closed {u : MO} {c n : Nat} (h : RdM u c) : closedM n u = true := by
  obtain ⟨a, b, r, k, rfl, h1, h2⟩ := h
  exact closed_rk
theorem pow5 {a : Int} (h : 0 ≤ a) (h2 : a < 2 ^ 64) : CPow a 5 := ⟨by decide, by decide, by omega⟩
theorem run_draw {S : Sto} {r c : Nat} {u : MO} {many : Int} (cS : Clo S) (hu : S[r]? = some u) (hr : RdM u c) (hc : c ≤ 100000) (hm : 0 < many) (hm2 : many < 1073741824) :
    ∃ i u', F__law_draw [.ref r, .int many] S = some (.int i, S.set r u') ∧ RdM u' (c + 1) ∧ 0 ≤ i ∧ i < many := by
  obtain ⟨cells, spot, rest, calls, rfl, h1, h2⟩ := hr
  have main : W2 (runFn 2 8 b__law_draw [.ref r, .int many] S) fun d S' => ∃ i u', d = .int i ∧ S' = S.set r u' ∧ RdM u' (c + 1) ∧ 0 ≤ i ∧ i < many := by
    have fin : ∀ x : Int, 0 ≤ x % many ∧ x % many < many := fun x => ⟨Int.emod_nonneg x (by omega), Int.emod_lt_of_pos x hm⟩
    refine w_run rfl ?_
    unfold b__law_draw
    repeat walk_at "w"
    refine ⟨_, _, _, hu, rfl, get_calls, ?_⟩
    repeat walk_at "w"
    refine ⟨_, _, hu, rfl, rk_len, ?_⟩
    rw [put_calls]
    repeat walk_at "w"
    have hu1 : ∀ v, (S.set r v)[r]? = some v := fun v => set_at hu
    refine ⟨_, _, _, hu1 _, rfl, get_rest, ?_⟩
    repeat walk_at "w"
    refine ⟨fun h => ?_, fun h => ?_⟩
    · repeat walk_at "w"
      refine ⟨_, _, _, hu1 _, rfl, get_rest, ?_⟩
      repeat walk_at "w"
      refine o_mod hm ?_
      repeat walk_at "w"
      refine ⟨_, _, _, hu1 _, rfl, get_rest, ?_⟩
      repeat walk_at "w"
      refine o_div ⟨hm, hm2⟩ ?_
      repeat walk_at "w"
      refine ⟨_, _, hu1 _, rfl, rk_len, ?_⟩
      rw [put_rest, List.set_set]
      repeat walk_at "w"
      exact ⟨_, _, rfl, rfl, ⟨_, _, _, calls + 1, rfl, Int.ediv_nonneg h1 (by omega), by omega⟩, fin _⟩
    · repeat walk_at "w"
      refine ⟨_, _, _, hu1 _, rfl, get_spot, ?_⟩
      repeat walk_at "w"
      refine ⟨_, _, hu1 _, rfl, rk_len, ?_⟩
      rw [put_spot, List.set_set]
      repeat walk_at "w"
      refine ⟨_, _, _, hu1 _, rfl, get_cells, ?_⟩
      repeat walk_at "v"
      refine w2_mid (fun d S1 => ∃ cl : Int, d = .int cl ∧ S1 = S.set r (.dct (rk (.lst (cells.map .int)) ((spot + 1 : Nat) : Int) rest ((calls + 1 : Nat) : Int)))) ?_ ?_
      · repeat walk_at "w"
        refine ⟨fun h => ?_, fun h => ?_⟩
        · have hl : 0 < cells.length := by have := of_decide_eq_true h; rw [List.length_map] at this; omega
          repeat walk_at "w"
          refine o_mod (by have := of_decide_eq_true h; omega) ?_
          have e1 : ((spot : Int) % (((cells.map D.int).length : Nat) : Int)) = ((spot % cells.length : Nat) : Int) := by rw [List.length_map]; omega
          have e2 : spot % cells.length < cells.length := Nat.mod_lt _ hl
          refine w1 (a := .int (cells[spot % cells.length])) ?_ ?_
          · rw [e1, ixO_sq (xs := cells.map D.int) rfl, List.getElem?_map, List.getElem?_eq_getElem e2]
            rfl
          · exact ⟨_, rfl, rfl⟩
        · repeat walk_at "w"
          first | exact ⟨_, rfl, rfl⟩ | rfl
      · rintro d S1 ⟨cl, rfl, rfl⟩
        repeat walk_at "v"
        have tail : W3 (cSeq (cSet 7 (cBin modO (cOp intOne (cCons (cBin powO (cBin addO (cBin addO (cBin modO (cOp intOne (cCons (cVar 6) cNil)) (cC (.int 2147483629))) (cBin mulO (cC (.int 6131)) (cVar 2))) (cC (.int 37))) (cC (.int 5))) cNil)) (cC (.int 2147483647))))
            (cRet (cBin modO (cOp intOne (cCons (cBin divO (cBin modO (cOp intOne (cCons (cBin powO (cBin addO (cVar 7) (cBin mulO (cBin mulO (cC (.int 4177)) (cVar 2)) (cVar 2))) (cC (.int 5))) cNil)) (cC (.int 2147483587))) (cC (.int 32))) cNil)) (cVar 1)))
            [some (.ref r), some (.int many), some (.int ((calls : Int) + 1)), none, some (.int spot), some (.lst (cells.map .int)), some (.int cl), none] (S.set r (.dct (rk (.lst (cells.map .int)) ((spot + 1 : Nat) : Int) rest ((calls + 1 : Nat) : Int))))) fun fl _ S1 => ∃ d, fl = .rt d ∧ ∃ i u', d = .int i ∧ S1 = S.set r u' ∧ RdM u' (c + 1) ∧ 0 ≤ i ∧ i < many := by
          have k1 : (0 : Int) ≤ (calls : Int) + 1 ∧ (calls : Int) + 1 ≤ 100001 := by omega
          generalize (calls : Int) + 1 = cc at k1
          have m1 := Int.emod_nonneg cl (show (2147483629 : Int) ≠ 0 by decide)
          have m2 := Int.emod_lt_of_pos cl (show (0 : Int) < 2147483629 by decide)
          repeat walk_at "w"
          refine o_mul (.inl ⟨by decide, by decide⟩) ?_
          repeat walk_at "w"
          refine o_pow (pow5 (by omega) (by omega)) ?_
          repeat walk_at "w"
          generalize ((cl % 2147483629 + 6131 * cc + 37) ^ (5 : Int).toNat) = z
          have m3 := Int.emod_nonneg z (show (2147483647 : Int) ≠ 0 by decide)
          have m4 := Int.emod_lt_of_pos z (show (0 : Int) < 2147483647 by decide)
          refine o_mul (.inl ⟨by decide, by decide⟩) ?_
          repeat walk_at "w"
          have m5 : 0 ≤ 4177 * cc * cc ∧ 4177 * cc * cc ≤ 4177 * 100001 * 100001 :=
            ⟨Int.mul_nonneg (by omega) k1.1, Int.mul_le_mul (by omega) k1.2 k1.1 (by decide)⟩
          refine o_mul (.inr ⟨by omega, by omega⟩) ?_
          repeat walk_at "w"
          refine o_pow (pow5 (by omega) (by omega)) ?_
          repeat walk_at "w"
          refine o_div ⟨by decide, by decide⟩ ?_
          repeat walk_at "w"
          refine o_mod hm ?_
          exact ⟨_, rfl, _, _, rfl, rfl, ⟨_, _, _, calls + 1, rfl, h1, by omega⟩, fin _⟩
        refine w_ifs ?_
        repeat walk_at "v"
        refine ⟨fun h => ?_, fun h => ?_⟩
        · repeat walk_at "v"
          refine o_pow ⟨by decide, by decide, by decide⟩ ?_
          repeat walk_at "v"
          refine ⟨fun h3 => ?_, fun h3 => ?_⟩
          · repeat walk_at "v"
            refine o_div ⟨hm, hm2⟩ ?_
            repeat walk_at "v"
            refine ⟨_, _, hu1 _, rfl, rk_len, ?_⟩
            rw [put_rest, List.set_set]
            repeat walk_at "v"
            refine o_mod hm ?_
            have h4 := of_decide_eq_true h3
            refine ⟨_, rfl, _, _, rfl, rfl, ⟨_, _, _, calls + 1, rfl, Int.ediv_nonneg (Int.le_trans (by decide) h4) (by omega), by omega⟩, fin _⟩
          · refine w_nx (sq_nx ?_)
            exact tail
        · refine ⟨(fun h => absurd h Bool.false_ne_true), fun _ => ?_⟩
          refine w_nx (sq_nx ?_)
          exact tail
  obtain ⟨d, S', e, i, u', rfl, rfl, h3, h4⟩ := main
  refine ⟨i, u', ?_, h3, h4⟩
  exact settled_to (T := []) (by rw [List.append_nil]; exact e) (by rw [List.length_set]) (cS.set h3.closed) rfl
end Gn
set_option Elab.async false
set_option linter.all false
set_option maxRecDepth 100000
set_option maxHeartbeats 4000000
namespace FS
open PySem PySem.Spec PyProof.Rows L2
/-! ### texts of common signs -/
def Asc (x : Str) : Prop := ∀ c ∈ x.cps.toList, c < 128
theorem Asc.append {x y : Str} (hx : Asc x) (hy : Asc y) : Asc (x ++ y) := by
  intro c h
  have : (x ++ y).cps.toList = x.cps.toList ++ y.cps.toList := by
    show (x.cps ++ y.cps).toList = _
    simp
  rw [this, List.mem_append] at h
  rcases h with h | h
  · exact hx c h
  · exact hy c h
theorem Asc.num (i : Int) : Asc (Str.ofString (toString i)) := by
  intro c h
  by_cases hc : c < 128
  · exact hc
  · exact absurd h (int_text_free' c ⟨by omega, by omega⟩ i)
theorem Asc.ok {x : Str} (h : Asc x) : PyData.strOk x = true := by
  unfold PyData.strOk
  rw [Array.all_eq_true_iff_forall_mem]
  intro c hc
  have := h c (by simpa using hc)
  simp only [decide_eq_true_eq]
  omega
theorem Asc.join {sep : Str} {ts : List Str} (hs : Asc sep) (h : ∀ t ∈ ts, Asc t) : Asc (Txt.join sep ts) := by
  intro c hc
  have e : Txt.join sep ts = Str.join sep ts := StrLaws.glued_eq_join sep ts
  rw [e, mem_join] at hc
  rcases hc with ⟨t, h1, h2⟩ | ⟨_, h2⟩
  · exact h t h1 c h2
  · exact hs c h2
theorem Asc.shown_len {x : Str} (h : Asc x) : (PyData.shown (.str x)).length ≤ 10 * x.length + 2 := by
  unfold PyData.shown
  exact StrLaws.reprText_len x fun c hc => Nat.lt_trans (h c hc) (by decide)
/-! ### data that can be shown and compared -/
def Nice (d : D) (k w : Nat) : Prop := ∃ p, pyD d = some p ∧ p.showable = true ∧ p.canLay0 = true ∧ p.depth ≤ k ∧ p.shown.length ≤ w
def NiceL (ds : List D) (k w : Nat) : Prop := ∃ ps, pyDs ds = some ps ∧ PyData.showableAll ps = true ∧ PyData.canLayAll0 ps = true ∧ PyData.depthAll ps ≤ k ∧ piled (PyData.shownAll ps) ≤ w
theorem Nice.non : Nice .non 0 4 := ⟨.none, by simp only [pyD], rfl, rfl, Nat.le_refl _, by decide +kernel⟩
theorem Nice.bl (b : Bool) : Nice (.bl b) 0 5 := ⟨.bool b, by simp only [pyD], rfl, rfl, Nat.le_refl _, by cases b <;> decide +kernel⟩
theorem Nice.int {i : Int} (h : i.natAbs.log2 < 1920) : Nice (.int i) 0 1921 := ⟨.int i, by simp only [pyD], by unfold PyData.showable; simpa using h, rfl, Nat.le_refl _, by unfold PyData.shown; exact int_text_len_1921 h⟩
theorem Nice.str {x : Str} {n : Nat} (h : Asc x) (hn : x.length ≤ n) : Nice (.str x) 0 (10 * n + 2) := ⟨.str x, by simp only [pyD], rfl, by unfold PyData.canLay0; exact h.ok, Nat.le_refl _, by have := h.shown_len; omega⟩
theorem NiceL.nil : NiceL [] 0 0 := ⟨[], by simp only [pyDs], rfl, rfl, Nat.le_refl _, Nat.le_refl _⟩
theorem Nice.mono {d : D} {k k' w w' : Nat} (h : Nice d k w) (hk : k ≤ k') (hw : w ≤ w') : Nice d k' w' := by
  obtain ⟨p, a, b, c, e, f⟩ := h
  exact ⟨p, a, b, c, Nat.le_trans e hk, Nat.le_trans f hw⟩
theorem NiceL.mono {d : List D} {k k' w w' : Nat} (h : NiceL d k w) (hk : k ≤ k') (hw : w ≤ w') : NiceL d k' w' := by
  obtain ⟨p, a, b, c, e, f⟩ := h
  exact ⟨p, a, b, c, Nat.le_trans e hk, Nat.le_trans f hw⟩
theorem NiceL.cons {d : D} {ds : List D} {k w w' : Nat} (h : Nice d k w) (t : NiceL ds k w') : NiceL (d :: ds) k (w + 2 + w') := by
  obtain ⟨p, a, b, c, e, f⟩ := h
  obtain ⟨ps, a', b', c', e', f'⟩ := t
  refine ⟨p :: ps, by simp only [pyDs, a, a'], by simp only [PyData.showableAll, b, b', Bool.and_self], by simp only [PyData.canLayAll0, c, c', Bool.and_self], by simp only [PyData.depthAll]; omega, ?_⟩
  simp only [PyData.shownAll, piled_cons]
  omega
theorem NiceL.all {k w : Nat} : ∀ {ds : List D}, (∀ d ∈ ds, Nice d k w) → NiceL ds k ((w + 2) * ds.length)
  | [], _ => NiceL.nil.mono (Nat.zero_le _) (Nat.zero_le _)
  | d :: ds, h => by
    refine (NiceL.cons (h d List.mem_cons_self) (NiceL.all fun x hx => h x (List.mem_cons_of_mem _ hx))).mono (Nat.le_refl _) ?_
    rw [List.length_cons, Nat.mul_succ]
    omega
theorem join_le (ts : List Str) : (Str.join ", " ts).length ≤ piled ts := by
  by_cases h : ts = []
  · subst h; exact Nat.zero_le _
  · have := join_length_add ts h
    omega
theorem Nice.tup {ds : List D} {k w : Nat} (h : NiceL ds k w) : Nice (.tup ds) (k + 1) (w + 3) := by
  obtain ⟨ps, a, b, c, e, f⟩ := h
  refine ⟨.tuple ps, by simp only [pyD, a, Option.map], by simpa only [PyData.showable] using b, by simpa only [PyData.canLay0] using c, by simp only [PyData.depth]; omega, ?_⟩
  simp only [PyData.shown]
  unfold tupleText
  rw [strLen_append, strLen_append]
  have e1 : ((("(" : String) : Str)).length = 1 := rfl
  have e3 : (((if (PyData.shownAll ps).length == 1 then ",)" else ")" : String) : Str)).length ≤ 2 := by split <;> decide
  have := join_le (PyData.shownAll ps)
  rw [e1]
  omega
theorem Nice.lst {ds : List D} {k w : Nat} (h : NiceL ds k w) : Nice (.lst ds) (k + 1) (w + 3) := by
  obtain ⟨ps, a, b, c, e, f⟩ := h
  refine ⟨.list ps, by simp only [pyD, a, Option.map], by simpa only [PyData.showable] using b, by simpa only [PyData.canLay0] using c, by simp only [PyData.depth]; omega, ?_⟩
  simp only [PyData.shown]
  rw [listText_eq_join]
  rw [strLen_append, strLen_append]
  have e1 : ((("[" : String) : Str)).length = 1 := rfl
  have e2 : ((("]" : String) : Str)).length = 1 := rfl
  have := join_le (PyData.shownAll ps)
  rw [e1, e2]
  omega
/-- the text of data -/
def rep (d : D) : Str := match pyD d with
  | some p => p.shown
  | none => .empty
theorem seen_nice {S : Sto} {d : D} {k w : Nat} (h : Nice d k w) : FS.seen S d = d := by
  cases d with
  | ref n => obtain ⟨p, a, _⟩ := h; simp only [pyD] at a; cases a
  | _ => rfl
theorem run_repr {S : Sto} {d : D} {k w : Nat} (h : Nice d k w) (hk : k ≤ 64) (hw : w ≤ 16777216) : reprO S [d] = some (.str (rep d)) := by
  have e0 := seen_nice (S := S) h
  obtain ⟨p, a, b, c, e, f⟩ := h
  show (match pyD (FS.seen S d) with | some p => _ | none => _) = _
  rw [e0]
  unfold rep
  simp only [a]
  rw [if_pos ⟨b, PyData.hasDict_of_canLay p c, by omega, by rw [sL]; omega⟩]
theorem Nice.rep_asc {d : D} {k w : Nat} (h : Nice d k w) : (rep d).length ≤ w := by
  obtain ⟨p, a, b, c, e, f⟩ := h
  unfold rep
  rw [a]
  exact f
theorem shaped_nice {d : D} {k w : Nat} {p : PyData} (h : Nice d k w) (hk : k ≤ 64) (e : pyD d = some p) : SeqAt.shaped p = true := by
  obtain ⟨q, a, b, c, d, f⟩ := h
  rw [e] at a
  cases a
  unfold SeqAt.shaped
  rw [c, Bool.true_and]
  exact decide_eq_true (by omega)
end FS
set_option Elab.async false
set_option linter.all false
set_option maxRecDepth 100000
set_option maxHeartbeats 4000000
namespace Gn
open PySem PySem.Spec PyProof.Rows L2 FS
local macro_rules | `(tactic| walk_at "w") => `(tactic| first | (with_reducible refine w_seq ?_) | (with_reducible refine w_set ?_) | (with_reducible refine w_ret ?_) | (with_reducible refine w_drop ?_) | (with_reducible refine w_nx ?_) | (with_reducible refine w_bin ?_) | (with_reducible refine w_test ?_) | (with_reducible refine w_andT ?_) | (with_reducible refine w_orT ?_) | (with_reducible refine w_notT ?_) | (with_reducible refine w_and ?_) | (with_reducible refine w_nil ?_) | (with_reducible refine w_cons ?_) | (with_reducible refine w_op ?_) | (with_reducible refine w_call0 ?_) | (with_reducible refine w_sl ?_) | (with_reducible refine w_nop ?_) | (with_reducible refine w_p ?_) | (with_reducible refine w_yes ?_) | (with_reducible refine w_c ?_) | (with_reducible refine w_un ?_) | (with_reducible refine w_par ?_) | (with_reducible refine w_asg ?_) | (with_reducible refine w_ifs ?_) | (with_reducible refine w_if ?_) | (with_reducible refine o_add ?_) | (with_reducible refine o_sub ?_) | (with_reducible refine o_lt ?_) | (with_reducible refine o_le ?_) | (with_reducible refine o_gt ?_) | (with_reducible refine o_ge ?_) | (with_reducible refine o_eqs ?_) | (with_reducible refine o_eqi ?_) | (with_reducible refine o_eqb ?_) | (with_reducible refine o_nes ?_) | (with_reducible refine o_nei ?_) | (with_reducible refine o_isnn ?_) | (with_reducible refine o_isni ?_) | (with_reducible refine o_isns ?_) | (with_reducible refine o_min ?_) | (with_reducible refine o_int ?_) | (with_reducible refine o_neg ?_) | (with_reducible refine o_lenT ?_) | (with_reducible refine o_lenL ?_) | (with_reducible refine sq_nx ?_) | (with_reducible refine sq_rt ?_) | ((with_reducible apply w_var); focus exact rfl) | (with_reducible refine w_tup ?_) | (with_reducible refine w_lst ?_) | (with_reducible refine w_new ?_) | ((with_reducible refine sz_and ?_ ?_); focus (simp only [List.length_cons, List.length_nil, sL] <;> omega)) | (with_reducible refine w_meth ?_) | (with_reducible refine w_lc ?_) | (with_reducible refine w_dput ?_) | (with_reducible refine w_dget ?_) | (with_reducible refine w_dget2 ?_) | ((with_reducible apply ex_rfl); focus exact rfl) | (with_reducible refine o_mod (by decide) ?_))
local macro_rules | `(tactic| walk_at "v") => `(tactic| first | (with_reducible refine w_seq ?_) | (with_reducible refine w_set ?_) | (with_reducible refine w_ret ?_) | (with_reducible refine w_drop ?_) | (with_reducible refine w_nx ?_) | (with_reducible refine w_bin ?_) | (with_reducible refine w_test ?_) | (with_reducible refine w_andT ?_) | (with_reducible refine w_orT ?_) | (with_reducible refine w_notT ?_) | (with_reducible refine w_and ?_) | (with_reducible refine w_nil ?_) | (with_reducible refine w_cons ?_) | (with_reducible refine w_op ?_) | (with_reducible refine w_call0 ?_) | (with_reducible refine w_sl ?_) | (with_reducible refine w_nop ?_) | (with_reducible refine w_p ?_) | (with_reducible refine w_yes ?_) | (with_reducible refine w_c ?_) | (with_reducible refine w_un ?_) | (with_reducible refine w_par ?_) | (with_reducible refine w_asg ?_) | (with_reducible refine o_add ?_) | (with_reducible refine o_sub ?_) | (with_reducible refine o_lt ?_) | (with_reducible refine o_le ?_) | (with_reducible refine o_gt ?_) | (with_reducible refine o_ge ?_) | (with_reducible refine o_eqs ?_) | (with_reducible refine o_eqi ?_) | (with_reducible refine o_eqb ?_) | (with_reducible refine o_nes ?_) | (with_reducible refine o_nei ?_) | (with_reducible refine o_isnn ?_) | (with_reducible refine o_isni ?_) | (with_reducible refine o_isns ?_) | (with_reducible refine o_min ?_) | (with_reducible refine o_int ?_) | (with_reducible refine o_neg ?_) | (with_reducible refine o_lenT ?_) | (with_reducible refine o_lenL ?_) | (with_reducible refine sq_nx ?_) | (with_reducible refine sq_rt ?_) | ((with_reducible apply w_var); focus exact rfl) | (with_reducible refine w_tup ?_) | (with_reducible refine w_lst ?_) | (with_reducible refine w_new ?_) | ((with_reducible refine sz_and ?_ ?_); focus (simp only [List.length_cons, List.length_nil, sL] <;> omega)) | (with_reducible refine w_meth ?_) | (with_reducible refine w_lc ?_) | (with_reducible refine w_dput ?_) | (with_reducible refine w_dget ?_) | (with_reducible refine w_dget2 ?_) | ((with_reducible apply ex_rfl); focus exact rfl) | (with_reducible refine o_mod (by decide) ?_))
local macro_rules | `(tactic| walk_at "u") => `(tactic| first | (with_reducible refine w_seq ?_) | (with_reducible refine w_set ?_) | (with_reducible refine w_ret ?_) | (with_reducible refine w_drop ?_) | (with_reducible refine w_nx ?_) | (with_reducible refine w_bin ?_) | (with_reducible refine w_test ?_) | (with_reducible refine w_andT ?_) | (with_reducible refine w_orT ?_) | (with_reducible refine w_notT ?_) | (with_reducible refine w_and ?_) | (with_reducible refine w_nil ?_) | (with_reducible refine w_cons ?_) | (with_reducible refine w_op ?_) | (with_reducible refine w_call0 ?_) | (with_reducible refine w_sl ?_) | (with_reducible refine w_nop ?_) | (with_reducible refine w_p ?_) | (with_reducible refine w_yes ?_) | (with_reducible refine w_c ?_) | (with_reducible refine w_un ?_) | (with_reducible refine w_par ?_) | (with_reducible refine w_asg ?_) | (with_reducible refine o_add ?_) | (with_reducible refine o_sub ?_) | (with_reducible refine o_lt ?_) | (with_reducible refine o_le ?_) | (with_reducible refine o_gt ?_) | (with_reducible refine o_ge ?_) | (with_reducible refine o_eqs ?_) | (with_reducible refine o_eqi ?_) | (with_reducible refine o_eqb ?_) | (with_reducible refine o_nes ?_) | (with_reducible refine o_nei ?_) | (with_reducible refine o_isnn ?_) | (with_reducible refine o_isni ?_) | (with_reducible refine o_isns ?_) | (with_reducible refine o_min ?_) | (with_reducible refine o_int ?_) | (with_reducible refine o_neg ?_) | (with_reducible refine o_lenT ?_) | (with_reducible refine o_lenL ?_) | (with_reducible refine sq_nx ?_) | (with_reducible refine sq_rt ?_) | ((with_reducible apply w_var); focus exact rfl) | (with_reducible refine w_tup ?_) | (with_reducible refine w_lst ?_) | (with_reducible refine w_new ?_) | ((with_reducible refine sz_and ?_ ?_); focus (simp only [List.length_cons, List.length_nil, sL] <;> omega)) | (with_reducible refine w_meth ?_)  | (with_reducible refine w_dput ?_) | (with_reducible refine w_dget ?_) | (with_reducible refine w_dget2 ?_) | ((with_reducible apply ex_rfl); focus exact rfl) | (with_reducible refine o_mod (by decide) ?_))

/-! ### a list made of those that pass -/
theorem w_lcsel {α : Type} {src : Src} {t : Tg} {c : Gb} {f : G} {vs : List Nat} {ρ : Rho} {S : Sto} {Q : D → Sto → Prop} (enc : α → D) (p : α → Bool) (g : α → D) (xs : List α) (w : Option Nat)
    (hsrc : src ρ S = some (xs.map enc, w, S)) (hst : still (xs.map enc) w S = true)
    (hx : ∀ x ∈ xs, ∃ ρ1, t (enc x) (wipeR ρ vs) = some ρ1 ∧ W2 (c ρ1 S) (fun b S2 => b = p x ∧ S2 = S) ∧ (p x = true → W2 (f ρ1 S) fun d S2 => d = g x ∧ S2 = S))
    (k : Q (.lst ((xs.filter p).map g)) S) : W2 (cLc src t c f vs ρ S) Q := by
  have e0 := lcB_sel (t := t) (c := c) (f := f) (st := still (xs.map enc) w) (ρ := wipeR ρ vs) (S := S) enc p g hst xs (fun x h => ?_)
  · refine w2 (S := S) ?_ k
    unfold cLc
    rw [hsrc]
    dsimp only
    rw [e0]
  obtain ⟨ρ1, e1, ⟨b, S2, e2, rfl, rfl⟩, h3⟩ := hx x h
  refine ⟨ρ1, e1, e2, fun h => ?_⟩
  obtain ⟨d, S3, e3, rfl, rfl⟩ := h3 h
  exact e3
theorem sum_ints {S : Sto} (l : List Int) : sumO S [.lst (l.map .int)] = some (.int l.sum) := by
  have e : ∀ l : List Int, intsD (l.map .int) = some l := by
    intro l
    induction l with
    | nil => rfl
    | cons x r ih => simp only [List.map_cons, intsD, ih, Option.map]
  show (intsD (l.map .int)).map (fun ns => D.int ns.sum) = _
  rw [e]
  rfl
theorem w_src1 {f : G} {ρ : Rho} {S : Sto} {xs : List D} (h : W2 (f ρ S) fun d S1 => (d = .tup xs ∨ d = .lst xs) ∧ S1 = S) : sSeq f ρ S = some (xs, none, S) := by
  obtain ⟨d, S1, e, rfl | rfl, rfl⟩ := h
  · exact w_seqT ⟨_, _, e, rfl, rfl⟩
  · exact w_seqL ⟨_, _, e, rfl, rfl⟩
theorem slice_any {S : Sto} {d : D} {xs : List D} (lo hi : Option Int) (h : sqOf S d = some xs) : ∃ e, sliceO S d lo hi = some e ∧ (e = .tup (FS.cutD xs lo hi) ∨ e = .lst (FS.cutD xs lo hi)) := by
  rcases sq_cases h with rfl | h
  · exact ⟨_, rfl, .inl rfl⟩
  · cases d with
    | tup ys => cases h
    | lst ys => cases h; exact ⟨_, rfl, .inr rfl⟩
    | scr ys => cases h; exact ⟨_, rfl, .inr rfl⟩
    | ref n =>
      refine ⟨_, ?_, .inr rfl⟩
      show (lsOf S (.ref n)).map _ = _
      rw [h]
      rfl
    | _ => cases h
/-! ### sizes, rests -/
def sizeOf : Row → Int
  | .order _ _ _ z _ => z
  | _ => 0
def priceOf : Row → Int
  | .order _ _ p _ _ => p
  | _ => 0
def sideOf : Row → Str
  | .order _ s _ _ _ => s
  | _ => .empty
theorem size_at {r : Row} (S : Sto) (h : isOrd r = true) : ixO S r.d (.int 4) = some (.int (sizeOf r)) := by
  cases r <;> first | exact ix4 .. | cases h
theorem price_at {r : Row} (S : Sto) (h : isOrd r = true) : ixO S r.d (.int 3) = some (.int (priceOf r)) := by
  cases r <;> first | exact ix3 .. | cases h
theorem side_at {r : Row} (S : Sto) (h : isOrd r = true) : ixO S r.d (.int 2) = some (.str (sideOf r)) := by
  cases r <;> first | exact ix2 .. | cases h
def tot (l : List (Int × Int)) (n : Int) : Int := ((l.filter fun q => decide (q.1 = n)).map (·.2)).sum
theorem tot_nil (n : Int) : tot [] n = 0 := rfl
theorem tot_snoc (l : List (Int × Int)) (q : Int × Int) (n : Int) : tot (l ++ [q]) n = tot l n + (if q.1 = n then q.2 else 0) := by
  unfold tot
  rw [List.filter_append, List.map_append, List.sum_append]
  congr 1
  by_cases h : q.1 = n
  · rw [if_pos h, List.filter_cons_of_pos (by simpa using h)]; simp
  · rw [if_neg h, List.filter_cons_of_neg (by simpa using h)]; rfl
def rowAt (rows : List Row) (n : Nat) : Row := rows[n]?.getD .closed
theorem rowAt_get {rows : List Row} {n : Nat} (h : n < rows.length) : rows[n]? = some (rowAt rows n) := by
  unfold rowAt
  rw [List.getElem?_eq_getElem h]
  rfl
def restL (rows : List Row) (n t i : Nat) : Int := sizeOf (rowAt rows n) - tot (tradesL rows t i) n
theorem row_ix {rows : List Row} {rd : D} {S : Sto} {n : Nat} (hr : sqOf S rd = some (rows.map Row.d)) (h : n < rows.length) : ixO S rd (.int (n : Int)) = some (rowAt rows n).d := by
  rw [ixO_sq hr, List.getElem?_map, rowAt_get h]
  rfl
theorem run_rest {rows : List Row} {rd : D} {n t i : Nat} {S : Sto} (c : Clo S) (hs : Short rows) (hr : sqOf S rd = some (rows.map Row.d)) (hn : n < rows.length) (ho : isOrd (rowAt rows n) = true) :
    F__law_rest [rd, .int n, .int t, .int i] S = some (.int (restL rows n t i), S) := by
  refine settled_same ?_ c rfl
  have main : W2 (runFn 4 6 b__law_rest [rd, .int n, .int t, .int i] S) fun d S' => d = .int (restL rows n t i) ∧ S' = S := by
    refine w_run rfl ?_
    unfold b__law_rest
    repeat walk_at "v"
    refine w1 (row_ix hr hn) ?_
    repeat walk_at "v"
    refine w1 (size_at _ ho) ?_
    (with_reducible refine w_op ?_)
    (with_reducible refine w_cons ?_)
    refine w_lcsel pD (fun q => decide (q.1 = (n : Int))) (fun q => .int q.2) (tradesL rows t i) none (w_src1 ?_) rfl (fun q hq => ?_) ?_
    · repeat walk_at "v"
      exact w2 (run_trades c hs hr) ⟨.inr rfl, rfl⟩
    · refine ⟨_, rfl, ?_, fun _ => ?_⟩
      · repeat walk_at "v"
        exact ⟨rfl, rfl⟩
      · repeat walk_at "v"
        exact ⟨rfl, rfl⟩
    · repeat walk_at "v"
      have e := sum_ints (S := S) (((tradesL rows t i).filter fun q => decide (q.1 = (n : Int))).map (·.2))
      rw [List.map_map] at e
      refine w1 e ?_
      repeat walk_at "v"
      exact ⟨rfl, rfl⟩
  obtain ⟨d, S', e, rfl, rfl⟩ := main
  exact e
def ordersL (rows : List Row) : List Nat := (List.range rows.length).filter fun k => isOrd (rowAt rows k)
theorem run_orders {rows : List Row} {rd : D} {S : Sto} (c : Clo S) (hs : Short rows) (hr : sqOf S rd = some (rows.map Row.d)) :
    F__law_orders [rd] S = some (.lst ((ordersL rows).map fun (k : Nat) => .int k), S) := by
  refine settled_same ?_ c (closedL_of _ _ fun x _ => rfl)
  have main : W2 (runFn 1 2 b__law_orders [rd] S) fun d S' => d = .lst ((ordersL rows).map fun (k : Nat) => .int k) ∧ S' = S := by
    refine w_run rfl ?_
    unfold b__law_orders
    (with_reducible refine w_ret ?_)
    refine w_lcsel (fun (k : Nat) => .int k) (fun k => isOrd (rowAt rows k)) (fun (k : Nat) => .int k) (List.range rows.length) none ?_ rfl (fun k hk => ?_) ?_
    · rw [← ints0]
      refine w_src ?_ (by have := hs.1; omega)
      repeat walk_at "v"
      refine w1 (lenO_sq hr) ?_
      repeat walk_at "v"
      exact ⟨by rw [List.length_map], rfl⟩
    · have hk2 : k < rows.length := by simpa using hk
      refine ⟨_, rfl, ?_, fun _ => ?_⟩
      · repeat walk_at "v"
        refine w1 (row_ix hr hk2) ?_
        repeat walk_at "v"
        refine w1 (tag_at _ _) ?_
        repeat walk_at "v"
        exact ⟨tag_ord _, rfl⟩
      · repeat walk_at "v"
        exact ⟨rfl, rfl⟩
    · exact ⟨_, rfl, rfl, rfl⟩
  obtain ⟨d, S', e, rfl, rfl⟩ := main
  exact e
/-! ### open orders -/
def goneL (rows : List Row) (t : Nat) : List Int := (rows.take t).filterMap goneOf
def openP (rows : List Row) (t i k : Nat) : Bool := decide (k < t) && !(goneL rows t).contains (k : Int) && decide (tot (tradesL rows t i) k < sizeOf (rowAt rows k))
def openL (rows : List Row) (t i : Nat) : List Nat := (ordersL rows).filter (openP rows t i)
theorem gone_at {r : Row} (S : Sto) (h : (goneOf r).isSome = true) : ixO S r.d (.int 1) = some (.int ((goneOf r).getD 0)) := by
  cases r <;> first | exact ix1 .. | cases h
theorem gone_map (l : List Row) : ((l.filter fun r => (goneOf r).isSome).map fun r => D.int ((goneOf r).getD 0)) = (l.filterMap goneOf).map .int := by
  induction l with
  | nil => rfl
  | cons r l ih =>
    cases e : goneOf r with
    | none => rw [List.filter_cons_of_neg (by simp [e]), List.filterMap_cons_none e, ih]
    | some n => rw [List.filter_cons_of_pos (by simp [e]), List.filterMap_cons_some e, List.map_cons, List.map_cons, ih, e]; rfl
theorem valD_put (kvs : List (Key × D)) (k k' : Key) (v : D) : valD (putD kvs k v) k' = if k = k' then some v else valD kvs k' := by
  have find_map : ∀ l : List (Key × D), ((l.map fun kv => if kv.1 = k then (kv.1, v) else kv).find? fun kv => decide (kv.1 = k')) = if k = k' then (l.find? fun kv => decide (kv.1 = k)).map (fun kv => (kv.1, v)) else l.find? fun kv => decide (kv.1 = k') := by
    intro l
    induction l with
    | nil => split <;> rfl
    | cons x l ih =>
      rw [List.map_cons, List.find?_cons, List.find?_cons, List.find?_cons, ih]
      by_cases h1 : x.1 = k <;> by_cases h2 : k = k' <;> by_cases h3 : x.1 = k' <;> simp_all
  unfold putD valD
  split
  · rename_i h
    rw [find_map]
    split
    · obtain ⟨x, hx, he⟩ := List.any_eq_true.mp h
      cases e : kvs.find? (fun kv => decide (kv.1 = k)) with
      | some y => rfl
      | none => exact absurd he (by simpa using List.find?_eq_none.mp e x hx)
    · rfl
  · rename_i h
    have h1 : ∀ x ∈ kvs, ¬ x.1 = k := fun x hx e => h (List.any_eq_true.mpr ⟨x, hx, decide_eq_true e⟩)
    rw [List.find?_append]
    by_cases hk : k = k'
    · subst hk
      rw [if_pos rfl, List.find?_eq_none.mpr (fun x hx => by simpa using h1 x hx)]
      simp
    · rw [if_neg hk]
      cases e : kvs.find? (fun kv => decide (kv.1 = k')) with
      | some y => rfl
      | none => simp [hk]
theorem putD_len (kvs : List (Key × D)) (k : Key) (v : D) : (putD kvs k v).length ≤ kvs.length + 1 := by
  unfold putD
  split
  · rw [List.length_map]; omega
  · rw [List.length_append]; exact Nat.le_refl _
theorem inO_ints {S : Sto} {neg : Bool} (n : Int) (l : List Int) : inO neg S (.int n) (.lst (l.map .int)) = some (.bl (if neg then !l.contains n else l.contains n)) := by
  have e : ∀ l : List Int, flatDs (l.map .int) = some (l.map V.int) := by
    intro l
    induction l with
    | nil => rfl
    | cons x l ih => simp only [List.map_cons, flatDs, flatD, ih]
  have e2 : inV (.int n) (l.map V.int) = l.contains n := by
    induction l with
    | nil => rfl
    | cons x l ih =>
      unfold inV at ih ⊢
      rw [List.map_cons, List.any_cons, ih, List.contains_cons]
      congr 1
      rw [Bool.eq_iff_iff]
      simp [eqV]
      exact eq_comm
  show (match flatD (.int n), flatDs (l.map .int) with | some v, some vs => some (D.bl (if neg then !inV v vs else inV v vs)) | _, _ => none) = _
  rw [e]
  show some (D.bl (if neg then !inV (.int n) (l.map V.int) else inV (.int n) (l.map V.int))) = _
  rw [e2]
end Gn
set_option Elab.async false
set_option linter.all false
set_option maxRecDepth 100000
set_option maxHeartbeats 4000000
namespace Gn
open PySem PySem.Spec PyProof.Rows L2 FS
local macro_rules | `(tactic| walk_at "w") => `(tactic| first | (with_reducible refine w_seq ?_) | (with_reducible refine w_set ?_) | (with_reducible refine w_ret ?_) | (with_reducible refine w_drop ?_) | (with_reducible refine w_nx ?_) | (with_reducible refine w_bin ?_) | (with_reducible refine w_test ?_) | (with_reducible refine w_andT ?_) | (with_reducible refine w_orT ?_) | (with_reducible refine w_notT ?_) | (with_reducible refine w_and ?_) | (with_reducible refine w_nil ?_) | (with_reducible refine w_cons ?_) | (with_reducible refine w_op ?_) | (with_reducible refine w_call0 ?_) | (with_reducible refine w_sl ?_) | (with_reducible refine w_nop ?_) | (with_reducible refine w_p ?_) | (with_reducible refine w_yes ?_) | (with_reducible refine w_c ?_) | (with_reducible refine w_un ?_) | (with_reducible refine w_par ?_) | (with_reducible refine w_asg ?_) | (with_reducible refine w_ifs ?_) | (with_reducible refine w_if ?_) | (with_reducible refine o_add ?_) | (with_reducible refine o_sub ?_) | (with_reducible refine o_lt ?_) | (with_reducible refine o_le ?_) | (with_reducible refine o_gt ?_) | (with_reducible refine o_ge ?_) | (with_reducible refine o_eqs ?_) | (with_reducible refine o_eqi ?_) | (with_reducible refine o_eqb ?_) | (with_reducible refine o_nes ?_) | (with_reducible refine o_nei ?_) | (with_reducible refine o_isnn ?_) | (with_reducible refine o_isni ?_) | (with_reducible refine o_isns ?_) | (with_reducible refine o_min ?_) | (with_reducible refine o_int ?_) | (with_reducible refine o_neg ?_) | (with_reducible refine o_lenT ?_) | (with_reducible refine o_lenL ?_) | (with_reducible refine sq_nx ?_) | (with_reducible refine sq_rt ?_) | ((with_reducible apply w_var); focus exact rfl) | (with_reducible refine w_tup ?_) | (with_reducible refine w_lst ?_) | (with_reducible refine w_new ?_) | ((with_reducible refine sz_and ?_ ?_); focus (simp only [List.length_cons, List.length_nil, sL] <;> omega)) | (with_reducible refine w_meth ?_) | (with_reducible refine w_lc ?_) | (with_reducible refine w_dput ?_) | (with_reducible refine w_dget ?_) | (with_reducible refine w_dget2 ?_) | ((with_reducible apply ex_rfl); focus exact rfl) | (with_reducible refine o_mod (by decide) ?_))
local macro_rules | `(tactic| walk_at "v") => `(tactic| first | (with_reducible refine w_seq ?_) | (with_reducible refine w_set ?_) | (with_reducible refine w_ret ?_) | (with_reducible refine w_drop ?_) | (with_reducible refine w_nx ?_) | (with_reducible refine w_bin ?_) | (with_reducible refine w_test ?_) | (with_reducible refine w_andT ?_) | (with_reducible refine w_orT ?_) | (with_reducible refine w_notT ?_) | (with_reducible refine w_and ?_) | (with_reducible refine w_nil ?_) | (with_reducible refine w_cons ?_) | (with_reducible refine w_op ?_) | (with_reducible refine w_call0 ?_) | (with_reducible refine w_sl ?_) | (with_reducible refine w_nop ?_) | (with_reducible refine w_p ?_) | (with_reducible refine w_yes ?_) | (with_reducible refine w_c ?_) | (with_reducible refine w_un ?_) | (with_reducible refine w_par ?_) | (with_reducible refine w_asg ?_) | (with_reducible refine o_add ?_) | (with_reducible refine o_sub ?_) | (with_reducible refine o_lt ?_) | (with_reducible refine o_le ?_) | (with_reducible refine o_gt ?_) | (with_reducible refine o_ge ?_) | (with_reducible refine o_eqs ?_) | (with_reducible refine o_eqi ?_) | (with_reducible refine o_eqb ?_) | (with_reducible refine o_nes ?_) | (with_reducible refine o_nei ?_) | (with_reducible refine o_isnn ?_) | (with_reducible refine o_isni ?_) | (with_reducible refine o_isns ?_) | (with_reducible refine o_min ?_) | (with_reducible refine o_int ?_) | (with_reducible refine o_neg ?_) | (with_reducible refine o_lenT ?_) | (with_reducible refine o_lenL ?_) | (with_reducible refine sq_nx ?_) | (with_reducible refine sq_rt ?_) | ((with_reducible apply w_var); focus exact rfl) | (with_reducible refine w_tup ?_) | (with_reducible refine w_lst ?_) | (with_reducible refine w_new ?_) | ((with_reducible refine sz_and ?_ ?_); focus (simp only [List.length_cons, List.length_nil, sL] <;> omega)) | (with_reducible refine w_meth ?_) | (with_reducible refine w_lc ?_) | (with_reducible refine w_dput ?_) | (with_reducible refine w_dget ?_) | (with_reducible refine w_dget2 ?_) | ((with_reducible apply ex_rfl); focus exact rfl) | (with_reducible refine o_mod (by decide) ?_))
local macro_rules | `(tactic| walk_at "u") => `(tactic| first | (with_reducible refine w_seq ?_) | (with_reducible refine w_set ?_) | (with_reducible refine w_ret ?_) | (with_reducible refine w_drop ?_) | (with_reducible refine w_nx ?_) | (with_reducible refine w_bin ?_) | (with_reducible refine w_test ?_) | (with_reducible refine w_andT ?_) | (with_reducible refine w_orT ?_) | (with_reducible refine w_notT ?_) | (with_reducible refine w_and ?_) | (with_reducible refine w_nil ?_) | (with_reducible refine w_cons ?_) | (with_reducible refine w_op ?_) | (with_reducible refine w_call0 ?_) | (with_reducible refine w_sl ?_) | (with_reducible refine w_nop ?_) | (with_reducible refine w_p ?_) | (with_reducible refine w_yes ?_) | (with_reducible refine w_c ?_) | (with_reducible refine w_un ?_) | (with_reducible refine w_par ?_) | (with_reducible refine w_asg ?_) | (with_reducible refine o_add ?_) | (with_reducible refine o_sub ?_) | (with_reducible refine o_lt ?_) | (with_reducible refine o_le ?_) | (with_reducible refine o_gt ?_) | (with_reducible refine o_ge ?_) | (with_reducible refine o_eqs ?_) | (with_reducible refine o_eqi ?_) | (with_reducible refine o_eqb ?_) | (with_reducible refine o_nes ?_) | (with_reducible refine o_nei ?_) | (with_reducible refine o_isnn ?_) | (with_reducible refine o_isni ?_) | (with_reducible refine o_isns ?_) | (with_reducible refine o_min ?_) | (with_reducible refine o_int ?_) | (with_reducible refine o_neg ?_) | (with_reducible refine o_lenT ?_) | (with_reducible refine o_lenL ?_) | (with_reducible refine sq_nx ?_) | (with_reducible refine sq_rt ?_) | ((with_reducible apply w_var); focus exact rfl) | (with_reducible refine w_tup ?_) | (with_reducible refine w_lst ?_) | (with_reducible refine w_new ?_) | ((with_reducible refine sz_and ?_ ?_); focus (simp only [List.length_cons, List.length_nil, sL] <;> omega)) | (with_reducible refine w_meth ?_)  | (with_reducible refine w_dput ?_) | (with_reducible refine w_dget ?_) | (with_reducible refine w_dget2 ?_) | ((with_reducible apply ex_rfl); focus exact rfl) | (with_reducible refine o_mod (by decide) ?_))

structure Sums (kvs : List (Key × D)) (l : List (Int × Int)) : Prop where
  get : ∀ m : Int, (valD kvs (.inl m)).getD (.int 0) = .int (tot l m)
  len : kvs.length ≤ l.length
  alln : ∀ x ∈ kvs, ∃ i, x.2 = .int i
theorem Sums.nil : Sums [] [] := ⟨fun _ => rfl, Nat.le_refl _, fun _ h => by cases h⟩
theorem Sums.snoc {kvs : List (Key × D)} {l : List (Int × Int)} (h : Sums kvs l) (q : Int × Int) : Sums (putD kvs (.inl q.1) (.int (tot l q.1 + q.2))) (l ++ [q]) := by
  refine ⟨fun m => ?_, ?_, fun x hx => ?_⟩
  · rw [valD_put, tot_snoc]
    by_cases e : q.1 = m
    · subst e
      rw [if_pos rfl, if_pos rfl]
      rfl
    · rw [if_neg (fun h => e (Sum.inl.inj h)), if_neg e, h.get, Int.add_zero]
  · have := putD_len kvs (.inl q.1) (.int (tot l q.1 + q.2))
    have := h.len
    rw [List.length_append, List.length_singleton]
    omega
  · unfold putD at hx
    split at hx
    · obtain ⟨y, hy, e⟩ := List.mem_map.mp hx
      split at e
      · subst e; exact ⟨_, rfl⟩
      · subst e; exact h.alln _ hy
    · rcases List.mem_append.mp hx with hx | hx
      · exact h.alln _ hx
      · rw [List.mem_singleton] at hx
        subst hx
        exact ⟨_, rfl⟩
theorem Sums.closed {kvs : List (Key × D)} {l : List (Int × Int)} (h : Sums kvs l) (n : Nat) : closedM n (.dct kvs) = true := by
  show closedL n (kvs.map (·.2)) = true
  rw [closedL_iff]
  intro d hd
  obtain ⟨x, hx, rfl⟩ := List.mem_map.mp hd
  obtain ⟨i, e⟩ := h.alln x hx
  rw [e]
  rfl
theorem tradesL_len {rows : List Row} (h : Short rows) (t i : Nat) : (tradesL rows t i).length ≤ 3000000 := by
  have := tradesTo_len h t i (min (t + 1) rows.length)
  have h2 := h.1
  unfold tradesL
  omega
theorem filter_two {α : Type} (p q : α → Bool) (l : List α) : (l.filter p).filter q = l.filter fun x => p x && q x := by
  rw [List.filter_filter]
  congr 1
  funext x
  rw [Bool.and_comm]
theorem run_open {rows : List Row} {rd : D} {t i : Nat} {S : Sto} (c : Clo S) (hs : Short rows) (hr : sqOf S rd = some (rows.map Row.d)) :
    F__law_open [rd, .int t, .int i] S = some (.lst ((openL rows t i).map fun (k : Nat) => .int k), S) := by
  have main : W2 (runFn 3 9 b__law_open [rd, .int t, .int i] S) fun d S' => ∃ kvs, d = .lst ((openL rows t i).map fun (k : Nat) => .int k) ∧ S' = S ++ [.dct kvs] := by
    refine w_run rfl ?_
    unfold b__law_open
    (with_reducible refine w_seq ?_)
    (with_reducible refine w_set ?_)
    refine w_lcsel Row.d (fun r => (goneOf r).isSome) (fun r => .int ((goneOf r).getD 0)) (rows.take t) none (w_src1 ?_) rfl (fun r hr => ?_) ?_
    · repeat walk_at "v"
      obtain ⟨e, e1, e2⟩ := slice_any none (some (t : Int)) hr
      refine w1 e1 ?_
      rw [cut_to, ← List.map_take] at e2
      exact ⟨e2, rfl⟩
    · refine ⟨_, rfl, ?_, fun h => ?_⟩
      · repeat walk_at "v"
        refine w1 (tag_at _ _) ?_
        repeat walk_at "v"
        exact ⟨tag_cancel _, rfl⟩
      · repeat walk_at "v"
        exact w1 (gone_at _ h) ⟨rfl, rfl⟩
    rw [gone_map]
    (with_reducible refine sq_nx ?_)
    (with_reducible refine w_seq ?_)
    (with_reducible refine w_set ?_)
    (with_reducible refine w_dnew ?_)
    (with_reducible refine sq_nx ?_)
    (with_reducible refine w_seq ?_)
    have hr1 : ∀ u, sqOf (S ++ [u]) rd = some (rows.map Row.d) := fun u => sqOf_app hr
    refine w_fors (S1 := S ++ [.dct []]) pD (tradesL rows t i) none (fun pre ρ S1 => (∃ x5 x6, ρ = [some rd, some (.int t), some (.int i), some (.lst ((goneL rows t).map .int)), some (.ref S.length), x5, x6, none, none]) ∧ ∃ kvs, S1 = S ++ [.dct kvs] ∧ Sums kvs pre) ?_ ⟨⟨_, _, rfl⟩, _, rfl, .nil⟩ ?_ ?_
    · refine w_src1 ?_
      repeat walk_at "v"
      exact w2 (run_trades (c.app (Sums.closed .nil _)) hs (hr1 _)) ⟨.inr rfl, rfl⟩
    · rintro pre q post e ρ S1 ⟨⟨x5, x6, rfl⟩, kvs, rfl, hk⟩
      refine ⟨_, rfl, ?_⟩
      repeat walk_at "v"
      refine ⟨_, kvs, rfl, ap_at _, ?_⟩
      repeat walk_at "v"
      refine ⟨kvs, .inl q.1, ap_at _, rfl, ?_⟩
      rw [hk.get]
      repeat walk_at "v"
      have hl : kvs.length < sizeLine := by
        have h1 := hk.len
        have h2 := tradesL_len hs t i
        have h3 := congrArg List.length e
        rw [List.length_append, List.length_cons] at h3
        rw [sL]
        omega
      refine ⟨kvs, .inl q.1, ap_at _, rfl, hl, .inl rfl, rfl, ⟨_, _, rfl⟩, _, ap_set _ _, hk.snoc q⟩
    rintro ρ' S' ⟨⟨x5, x6, rfl⟩, kvs, rfl, hk⟩
    have cS := c.app (u := .dct kvs) (hk.closed _)
    (with_reducible refine sq_nx ?_)
    (with_reducible refine w_seq ?_)
    (with_reducible refine w_set ?_)
    refine w_lcsel (fun (k : Nat) => .int k) (fun k => decide (k < t) && !(goneL rows t).contains (k : Int)) (fun (k : Nat) => .int k) (ordersL rows) none (w_src1 ?_) rfl (fun k hk => ?_) ?_
    · repeat walk_at "v"
      exact w2 (run_orders cS hs (hr1 _)) ⟨.inr rfl, rfl⟩
    · refine ⟨_, rfl, ?_, fun h => ?_⟩
      · repeat walk_at "v"
        refine ⟨fun h => ?_, fun h => ?_⟩
        · repeat walk_at "v"
          refine w1 (inO_ints _ _) ?_
          repeat walk_at "v"
          have h2 : k < t := by have := of_decide_eq_true h; omega
          refine ⟨?_, rfl⟩
          rw [decide_eq_true h2, Bool.true_and]
          rfl
        · have h2 : ¬ k < t := by have := of_decide_eq_false h; omega
          refine ⟨?_, rfl⟩
          rw [decide_eq_false h2, Bool.false_and]
      · repeat walk_at "v"
        exact ⟨rfl, rfl⟩
    (with_reducible refine sq_nx ?_)
    (with_reducible refine w_ret ?_)
    refine w_lcsel (fun (k : Nat) => .int k) (fun k => decide (tot (tradesL rows t i) k < sizeOf (rowAt rows k))) (fun (k : Nat) => .int k) ((ordersL rows).filter fun k => decide (k < t) && !(goneL rows t).contains (k : Int)) none (w_src1 ?_) rfl (fun k hk2 => ?_) ?_
    · repeat walk_at "v"
      exact ⟨.inr rfl, rfl⟩
    · have hk3 := (List.mem_filter.mp (List.mem_filter.mp hk2).1)
      have hk4 : k < rows.length := by simpa using hk3.1
      refine ⟨_, rfl, ?_, fun h => ?_⟩
      · repeat walk_at "v"
        refine w1 (row_ix (hr1 _) hk4) ?_
        repeat walk_at "v"
        refine w1 (size_at _ hk3.2) ?_
        repeat walk_at "v"
        refine ⟨_, kvs, rfl, ap_at _, ?_⟩
        repeat walk_at "v"
        refine ⟨kvs, .inl k, ap_at _, rfl, ?_⟩
        rw [hk.get]
        repeat walk_at "v"
        exact ⟨rfl, rfl⟩
      · repeat walk_at "v"
        exact ⟨rfl, rfl⟩
    refine ⟨_, rfl, kvs, ?_, rfl⟩
    rw [filter_two]
    rfl
  obtain ⟨d, S', e, kvs, rfl, rfl⟩ := main
  exact settled_app e c (closedL_of _ _ fun x _ => rfl)
end Gn
set_option Elab.async false
set_option linter.all false
set_option maxRecDepth 100000
set_option maxHeartbeats 4000000
namespace Gn
open PySem PySem.Spec PyProof.Rows L2 FS
local macro_rules | `(tactic| walk_at "w") => `(tactic| first | (with_reducible refine w_seq ?_) | (with_reducible refine w_set ?_) | (with_reducible refine w_ret ?_) | (with_reducible refine w_drop ?_) | (with_reducible refine w_nx ?_) | (with_reducible refine w_bin ?_) | (with_reducible refine w_test ?_) | (with_reducible refine w_andT ?_) | (with_reducible refine w_orT ?_) | (with_reducible refine w_notT ?_) | (with_reducible refine w_and ?_) | (with_reducible refine w_nil ?_) | (with_reducible refine w_cons ?_) | (with_reducible refine w_op ?_) | (with_reducible refine w_call0 ?_) | (with_reducible refine w_sl ?_) | (with_reducible refine w_nop ?_) | (with_reducible refine w_p ?_) | (with_reducible refine w_yes ?_) | (with_reducible refine w_c ?_) | (with_reducible refine w_un ?_) | (with_reducible refine w_par ?_) | (with_reducible refine w_asg ?_) | (with_reducible refine w_ifs ?_) | (with_reducible refine w_if ?_) | (with_reducible refine o_add ?_) | (with_reducible refine o_sub ?_) | (with_reducible refine o_lt ?_) | (with_reducible refine o_le ?_) | (with_reducible refine o_gt ?_) | (with_reducible refine o_ge ?_) | (with_reducible refine o_eqs ?_) | (with_reducible refine o_eqi ?_) | (with_reducible refine o_eqb ?_) | (with_reducible refine o_nes ?_) | (with_reducible refine o_nei ?_) | (with_reducible refine o_isnn ?_) | (with_reducible refine o_isni ?_) | (with_reducible refine o_isns ?_) | (with_reducible refine o_min ?_) | (with_reducible refine o_int ?_) | (with_reducible refine o_neg ?_) | (with_reducible refine o_lenT ?_) | (with_reducible refine o_lenL ?_) | (with_reducible refine sq_nx ?_) | (with_reducible refine sq_rt ?_) | ((with_reducible apply w_var); focus exact rfl) | (with_reducible refine w_tup ?_) | (with_reducible refine w_lst ?_) | (with_reducible refine w_new ?_) | ((with_reducible refine sz_and ?_ ?_); focus (simp only [List.length_cons, List.length_nil, sL] <;> omega)) | (with_reducible refine w_meth ?_) | (with_reducible refine w_lc ?_) | (with_reducible refine w_dput ?_) | (with_reducible refine w_dget ?_) | (with_reducible refine w_dget2 ?_) | ((with_reducible apply ex_rfl); focus exact rfl) | (with_reducible refine o_mod (by decide) ?_))
local macro_rules | `(tactic| walk_at "v") => `(tactic| first | (with_reducible refine w_seq ?_) | (with_reducible refine w_set ?_) | (with_reducible refine w_ret ?_) | (with_reducible refine w_drop ?_) | (with_reducible refine w_nx ?_) | (with_reducible refine w_bin ?_) | (with_reducible refine w_test ?_) | (with_reducible refine w_andT ?_) | (with_reducible refine w_orT ?_) | (with_reducible refine w_notT ?_) | (with_reducible refine w_and ?_) | (with_reducible refine w_nil ?_) | (with_reducible refine w_cons ?_) | (with_reducible refine w_op ?_) | (with_reducible refine w_call0 ?_) | (with_reducible refine w_sl ?_) | (with_reducible refine w_nop ?_) | (with_reducible refine w_p ?_) | (with_reducible refine w_yes ?_) | (with_reducible refine w_c ?_) | (with_reducible refine w_un ?_) | (with_reducible refine w_par ?_) | (with_reducible refine w_asg ?_) | (with_reducible refine o_add ?_) | (with_reducible refine o_sub ?_) | (with_reducible refine o_lt ?_) | (with_reducible refine o_le ?_) | (with_reducible refine o_gt ?_) | (with_reducible refine o_ge ?_) | (with_reducible refine o_eqs ?_) | (with_reducible refine o_eqi ?_) | (with_reducible refine o_eqb ?_) | (with_reducible refine o_nes ?_) | (with_reducible refine o_nei ?_) | (with_reducible refine o_isnn ?_) | (with_reducible refine o_isni ?_) | (with_reducible refine o_isns ?_) | (with_reducible refine o_min ?_) | (with_reducible refine o_int ?_) | (with_reducible refine o_neg ?_) | (with_reducible refine o_lenT ?_) | (with_reducible refine o_lenL ?_) | (with_reducible refine sq_nx ?_) | (with_reducible refine sq_rt ?_) | ((with_reducible apply w_var); focus exact rfl) | (with_reducible refine w_tup ?_) | (with_reducible refine w_lst ?_) | (with_reducible refine w_new ?_) | ((with_reducible refine sz_and ?_ ?_); focus (simp only [List.length_cons, List.length_nil, sL] <;> omega)) | (with_reducible refine w_meth ?_) | (with_reducible refine w_lc ?_) | (with_reducible refine w_dput ?_) | (with_reducible refine w_dget ?_) | (with_reducible refine w_dget2 ?_) | ((with_reducible apply ex_rfl); focus exact rfl) | (with_reducible refine o_mod (by decide) ?_))
local macro_rules | `(tactic| walk_at "u") => `(tactic| first | (with_reducible refine w_seq ?_) | (with_reducible refine w_set ?_) | (with_reducible refine w_ret ?_) | (with_reducible refine w_drop ?_) | (with_reducible refine w_nx ?_) | (with_reducible refine w_bin ?_) | (with_reducible refine w_test ?_) | (with_reducible refine w_andT ?_) | (with_reducible refine w_orT ?_) | (with_reducible refine w_notT ?_) | (with_reducible refine w_and ?_) | (with_reducible refine w_nil ?_) | (with_reducible refine w_cons ?_) | (with_reducible refine w_op ?_) | (with_reducible refine w_call0 ?_) | (with_reducible refine w_sl ?_) | (with_reducible refine w_nop ?_) | (with_reducible refine w_p ?_) | (with_reducible refine w_yes ?_) | (with_reducible refine w_c ?_) | (with_reducible refine w_un ?_) | (with_reducible refine w_par ?_) | (with_reducible refine w_asg ?_) | (with_reducible refine o_add ?_) | (with_reducible refine o_sub ?_) | (with_reducible refine o_lt ?_) | (with_reducible refine o_le ?_) | (with_reducible refine o_gt ?_) | (with_reducible refine o_ge ?_) | (with_reducible refine o_eqs ?_) | (with_reducible refine o_eqi ?_) | (with_reducible refine o_eqb ?_) | (with_reducible refine o_nes ?_) | (with_reducible refine o_nei ?_) | (with_reducible refine o_isnn ?_) | (with_reducible refine o_isni ?_) | (with_reducible refine o_isns ?_) | (with_reducible refine o_min ?_) | (with_reducible refine o_int ?_) | (with_reducible refine o_neg ?_) | (with_reducible refine o_lenT ?_) | (with_reducible refine o_lenL ?_) | (with_reducible refine sq_nx ?_) | (with_reducible refine sq_rt ?_) | ((with_reducible apply w_var); focus exact rfl) | (with_reducible refine w_tup ?_) | (with_reducible refine w_lst ?_) | (with_reducible refine w_new ?_) | ((with_reducible refine sz_and ?_ ?_); focus (simp only [List.length_cons, List.length_nil, sL] <;> omega)) | (with_reducible refine w_meth ?_)  | (with_reducible refine w_dput ?_) | (with_reducible refine w_dget ?_) | (with_reducible refine w_dget2 ?_) | ((with_reducible apply ex_rfl); focus exact rfl) | (with_reducible refine o_mod (by decide) ?_))

/-! ### small values -/
def Sm (i : Int) : Prop := i.natAbs.log2 < 200
theorem Sm.wide {i : Int} (h : Sm i) : i.natAbs.log2 < 1920 := Nat.lt_trans h (by decide)
theorem sm_bd {i : Int} (h1 : -1000000 ≤ i) (h2 : i ≤ 1000000) : Sm i := by
  unfold Sm
  by_cases h : i.natAbs = 0
  · rw [h]; decide
  · refine (Nat.log2_lt h).mpr (Nat.lt_of_lt_of_le (show i.natAbs < 2 ^ 20 by omega) (Nat.pow_le_pow_right (by decide) (by decide)))
def Wd (m : Str) : Prop := Asc m ∧ m.length ≤ 20
structure FOk (f : Fill) : Prop where
  p : Sm f.p
  z : Sm f.z
  n : ∀ i, f.n = some i → Sm i
inductive ROk : Row → Prop
  | order {m s p z fs} (h1 : Wd m) (h2 : Wd s) (h3 : Sm p) (h4 : Sm z) (h5 : ∀ f ∈ fs, FOk f) (h6 : fs.length ≤ 8) : ROk (.order m s p z fs)
  | prints {fs} (h5 : ∀ f ∈ fs, FOk f) (h6 : fs.length ≤ 8) : ROk (.prints fs)
  | call {p ps} (h1 : ∀ i, p = some i → Sm i) (h5 : ∀ q ∈ ps, Sm q.1 ∧ Sm q.2) (h6 : ps.length ≤ 40) : ROk (.call p ps)
  | cancel {n} (h : Sm n) : ROk (.cancel n)
  | closed : ROk .closed
theorem nice_oD {o : Option Int} (h : ∀ i, o = some i → Sm i) : Nice (oD o) 0 1921 := by
  cases o with
  | none => exact Nice.non.mono (Nat.le_refl _) (by decide)
  | some i => exact .int (h i rfl).wide
theorem nice_fill {f : Fill} (h : FOk f) : Nice f.d 1 5772 := Nice.tup (((NiceL.nil.mono (Nat.le_refl _) (Nat.le_refl _)).cons (nice_oD h.n)).cons (.int h.z.wide) |>.cons (.int h.p.wide))
theorem nice_fills {fs : List Fill} (h : ∀ f ∈ fs, FOk f) (hl : fs.length ≤ 8) : Nice (.tup (fs.map Fill.d)) 2 46195 := by
  refine (Nice.tup (k := 1) (w := 5774 * 8) ((NiceL.all (k := 1) (w := 5772) fun d hd => ?_).mono (Nat.le_refl _) ?_)).mono (Nat.le_refl _) (Nat.le_refl _)
  · obtain ⟨f, hf, rfl⟩ := List.mem_map.mp hd
    exact nice_fill (h f hf)
  · rw [List.length_map]
    exact Nat.mul_le_mul_left _ hl
theorem nice_pairs {ps : List (Int × Int)} (h : ∀ q ∈ ps, Sm q.1 ∧ Sm q.2) (hl : ps.length ≤ 40) : Nice (.tup (ps.map pD)) 2 154043 := by
  refine (Nice.tup (k := 1) (w := 3851 * 40) ((NiceL.all (k := 1) (w := 3849) fun d hd => ?_).mono (Nat.le_refl _) ?_)).mono (Nat.le_refl _) (Nat.le_refl _)
  · obtain ⟨q, hq, rfl⟩ := List.mem_map.mp hd
    exact Nice.tup ((NiceL.nil.cons (.int (h q hq).2.wide)).cons (.int (h q hq).1.wide))
  · rw [List.length_map]
    exact Nat.mul_le_mul_left _ hl
theorem asc_lit {x : Str} (h : (x.cps.toList.all fun c => decide (c < 128)) = true) : Asc x := fun c hc => of_decide_eq_true (List.all_eq_true.mp h c hc)
theorem nice_tag (x : Str) (h : (x.cps.toList.all fun c => decide (c < 128)) = true) (hl : x.length ≤ 20) : Nice (.str x) 2 202 := (Nice.str (asc_lit h) hl).mono (Nat.zero_le _) (Nat.le_refl _)
theorem nup {d : D} {w : Nat} (h : Nice d 0 w) : Nice d 2 w := h.mono (by decide) (Nat.le_refl _)
theorem nice_row {r : Row} (h : ROk r) : Nice r.d 3 160000 := by
  cases h with
  | order h1 h2 h3 h4 h5 h6 => exact (Nice.tup ((((((NiceL.nil.mono (Nat.zero_le 2) (Nat.le_refl _)).cons (nice_fills h5 h6)).cons (nup (Nice.int h4.wide))).cons (nup (Nice.int h3.wide))).cons (nup (Nice.str h2.1 h2.2))).cons (nup (Nice.str h1.1 h1.2)) |>.cons (nice_tag "order" (by decide +kernel) (by decide +kernel)))).mono (Nat.le_refl _) (by decide)
  | prints h5 h6 => exact (Nice.tup (((NiceL.nil.mono (Nat.zero_le 2) (Nat.le_refl _)).cons (nice_fills h5 h6)).cons (nice_tag "prints" (by decide +kernel) (by decide +kernel)))).mono (Nat.le_refl _) (by decide)
  | call h1 h5 h6 => exact (Nice.tup ((((NiceL.nil.mono (Nat.zero_le 2) (Nat.le_refl _)).cons (nice_pairs h5 h6)).cons (nup (nice_oD h1))).cons (nice_tag "call" (by decide +kernel) (by decide +kernel)))).mono (Nat.le_refl _) (by decide)
  | cancel h => exact (Nice.tup (((NiceL.nil.mono (Nat.zero_le 2) (Nat.le_refl _)).cons (nup (Nice.int h.wide))).cons (nice_tag "cancel" (by decide +kernel) (by decide +kernel)))).mono (Nat.le_refl _) (by decide)
  | closed => exact (Nice.tup ((NiceL.nil.mono (Nat.zero_le 2) (Nat.le_refl _)).cons (nice_tag "closed" (by decide +kernel) (by decide +kernel)))).mono (Nat.le_refl _) (by decide)
/-! ### equal as data -/
theorem eqO_nil {S : Sto} {xs : List D} {k w : Nat} (neg : Bool) (h : NiceL xs k w) (hk : k ≤ 63) : eqO neg S (.lst xs) (.lst []) = some (.bl (if neg then !xs.isEmpty else xs.isEmpty)) := by
  have n1 := Nice.lst h
  have n2 : Nice (.lst []) 1 3 := Nice.lst NiceL.nil
  obtain ⟨ps, a, b, c, d, e⟩ := h
  have e1 : pyD (FS.seen S (.lst xs)) = some (.list ps) := by simp only [FS.seen, pyD, a, Option.map]
  have e2 : pyD (FS.seen S (.lst [])) = some (.list []) := by simp only [FS.seen, pyD, pyDs, Option.map]
  have s1 := shaped_nice n1 (by omega) (by simpa only [FS.seen] using e1)
  have s2 := shaped_nice n2 (by omega) (by simpa only [FS.seen] using e2)
  show (match pyD (FS.seen S (.lst xs)), pyD (FS.seen S (.lst [])) with | some p, some q => _ | _, _ => none) = _
  rw [e1, e2]
  dsimp only
  rw [if_pos ⟨s1, s2⟩]
  have : PyData.eqv (.list ps) (.list []) = xs.isEmpty := by
    simp only [PyData.eqv]
    cases xs with
    | nil => simp only [pyDs] at a; cases a; rfl
    | cons x xs =>
      simp only [pyDs] at a
      split at a
      · cases a; rfl
      · cases a
  rw [this]
def isClosed : Row → Bool
  | .closed => true
  | _ => false
theorem closed_eq {S : Sto} {r : Row} (h : ROk r) : eqO false S r.d (.tup [.str "closed"]) = some (.bl (isClosed r)) := by
  have n1 := nice_row h
  have n2 : Nice (.tup [.str "closed"]) 3 160000 := nice_row ROk.closed
  obtain ⟨p, e1, _⟩ := id n1
  have e2 : pyD (.tup [.str "closed"]) = some (.tuple [.str "closed"]) := by simp only [pyD, pyDs, Option.map]
  have s1 := shaped_nice n1 (by omega) e1
  have s2 := shaped_nice n2 (by omega) e2
  have key : eqO false S r.d (.tup [.str "closed"]) = (match pyD (FS.seen S r.d), pyD (FS.seen S (.tup [.str "closed"])) with | some p, some q => if SeqAt.shaped p = true ∧ SeqAt.shaped q = true then some (.bl (PyData.eqv p q)) else none | _, _ => none) := by
    cases r <;> rfl
  rw [key, seen_nice n1, seen_nice n2, e1, e2]
  dsimp only
  rw [if_pos ⟨s1, s2⟩]
  have t1 : ((Str.ofString "order") == (Str.ofString "closed")) = false := by decide +kernel
  have t2 : ((Str.ofString "prints") == (Str.ofString "closed")) = false := by decide +kernel
  have t3 : ((Str.ofString "call") == (Str.ofString "closed")) = false := by decide +kernel
  have t4 : ((Str.ofString "cancel") == (Str.ofString "closed")) = false := by decide +kernel
  have t5 : ((Str.ofString "closed") == (Str.ofString "closed")) = true := by decide +kernel
  have head : ∀ (x : Str) (ds : List D), pyD (.tup (.str x :: ds)) = some p → ∃ ps, p = .tuple (.str x :: ps) ∧ pyDs ds = some ps := by
    intro x ds e
    simp only [pyD, pyDs, Option.map_eq_some_iff] at e
    obtain ⟨l, e3, e4⟩ := e
    split at e3
    · rename_i y ys h1 h2
      cases h1
      cases e3
      exact ⟨_, e4.symm, h2⟩
    · cases e3
  cases r <;> (obtain ⟨ps, rfl, e3⟩ := head _ _ e1; simp only [PyData.eqv, PyData.eqvAll, t1, t2, t3, t4, t5, Bool.false_and, Bool.true_and, isClosed])
  simp only [pyDs] at e3
  cases e3
  rfl
end Gn
set_option Elab.async false
set_option linter.all false
set_option maxRecDepth 100000
set_option maxHeartbeats 4000000
namespace Gn
open PySem PySem.Spec PyProof.Rows L2 FS
local macro_rules | `(tactic| walk_at "w") => `(tactic| first | (with_reducible refine w_seq ?_) | (with_reducible refine w_set ?_) | (with_reducible refine w_ret ?_) | (with_reducible refine w_drop ?_) | (with_reducible refine w_nx ?_) | (with_reducible refine w_bin ?_) | (with_reducible refine w_test ?_) | (with_reducible refine w_andT ?_) | (with_reducible refine w_orT ?_) | (with_reducible refine w_notT ?_) | (with_reducible refine w_and ?_) | (with_reducible refine w_nil ?_) | (with_reducible refine w_cons ?_) | (with_reducible refine w_op ?_) | (with_reducible refine w_call0 ?_) | (with_reducible refine w_sl ?_) | (with_reducible refine w_nop ?_) | (with_reducible refine w_p ?_) | (with_reducible refine w_yes ?_) | (with_reducible refine w_c ?_) | (with_reducible refine w_un ?_) | (with_reducible refine w_par ?_) | (with_reducible refine w_asg ?_) | (with_reducible refine w_ifs ?_) | (with_reducible refine w_if ?_) | (with_reducible refine o_add ?_) | (with_reducible refine o_sub ?_) | (with_reducible refine o_lt ?_) | (with_reducible refine o_le ?_) | (with_reducible refine o_gt ?_) | (with_reducible refine o_ge ?_) | (with_reducible refine o_eqs ?_) | (with_reducible refine o_eqi ?_) | (with_reducible refine o_eqb ?_) | (with_reducible refine o_nes ?_) | (with_reducible refine o_nei ?_) | (with_reducible refine o_isnn ?_) | (with_reducible refine o_isni ?_) | (with_reducible refine o_isns ?_) | (with_reducible refine o_min ?_) | (with_reducible refine o_int ?_) | (with_reducible refine o_neg ?_) | (with_reducible refine o_lenT ?_) | (with_reducible refine o_lenL ?_) | (with_reducible refine sq_nx ?_) | (with_reducible refine sq_rt ?_) | ((with_reducible apply w_var); focus exact rfl) | (with_reducible refine w_tup ?_) | (with_reducible refine w_lst ?_) | (with_reducible refine w_new ?_) | ((with_reducible refine sz_and ?_ ?_); focus (simp only [List.length_cons, List.length_nil, sL] <;> omega)) | (with_reducible refine w_meth ?_) | (with_reducible refine w_lc ?_) | (with_reducible refine w_dput ?_) | (with_reducible refine w_dget ?_) | (with_reducible refine w_dget2 ?_) | ((with_reducible apply ex_rfl); focus exact rfl) | (with_reducible refine o_mod (by decide) ?_))
local macro_rules | `(tactic| walk_at "v") => `(tactic| first | (with_reducible refine w_seq ?_) | (with_reducible refine w_set ?_) | (with_reducible refine w_ret ?_) | (with_reducible refine w_drop ?_) | (with_reducible refine w_nx ?_) | (with_reducible refine w_bin ?_) | (with_reducible refine w_test ?_) | (with_reducible refine w_andT ?_) | (with_reducible refine w_orT ?_) | (with_reducible refine w_notT ?_) | (with_reducible refine w_and ?_) | (with_reducible refine w_nil ?_) | (with_reducible refine w_cons ?_) | (with_reducible refine w_op ?_) | (with_reducible refine w_call0 ?_) | (with_reducible refine w_sl ?_) | (with_reducible refine w_nop ?_) | (with_reducible refine w_p ?_) | (with_reducible refine w_yes ?_) | (with_reducible refine w_c ?_) | (with_reducible refine w_un ?_) | (with_reducible refine w_par ?_) | (with_reducible refine w_asg ?_) | (with_reducible refine o_add ?_) | (with_reducible refine o_sub ?_) | (with_reducible refine o_lt ?_) | (with_reducible refine o_le ?_) | (with_reducible refine o_gt ?_) | (with_reducible refine o_ge ?_) | (with_reducible refine o_eqs ?_) | (with_reducible refine o_eqi ?_) | (with_reducible refine o_eqb ?_) | (with_reducible refine o_nes ?_) | (with_reducible refine o_nei ?_) | (with_reducible refine o_isnn ?_) | (with_reducible refine o_isni ?_) | (with_reducible refine o_isns ?_) | (with_reducible refine o_min ?_) | (with_reducible refine o_int ?_) | (with_reducible refine o_neg ?_) | (with_reducible refine o_lenT ?_) | (with_reducible refine o_lenL ?_) | (with_reducible refine sq_nx ?_) | (with_reducible refine sq_rt ?_) | ((with_reducible apply w_var); focus exact rfl) | (with_reducible refine w_tup ?_) | (with_reducible refine w_lst ?_) | (with_reducible refine w_new ?_) | ((with_reducible refine sz_and ?_ ?_); focus (simp only [List.length_cons, List.length_nil, sL] <;> omega)) | (with_reducible refine w_meth ?_) | (with_reducible refine w_lc ?_) | (with_reducible refine w_dput ?_) | (with_reducible refine w_dget ?_) | (with_reducible refine w_dget2 ?_) | ((with_reducible apply ex_rfl); focus exact rfl) | (with_reducible refine o_mod (by decide) ?_))
local macro_rules | `(tactic| walk_at "u") => `(tactic| first | (with_reducible refine w_seq ?_) | (with_reducible refine w_set ?_) | (with_reducible refine w_ret ?_) | (with_reducible refine w_drop ?_) | (with_reducible refine w_nx ?_) | (with_reducible refine w_bin ?_) | (with_reducible refine w_test ?_) | (with_reducible refine w_andT ?_) | (with_reducible refine w_orT ?_) | (with_reducible refine w_notT ?_) | (with_reducible refine w_and ?_) | (with_reducible refine w_nil ?_) | (with_reducible refine w_cons ?_) | (with_reducible refine w_op ?_) | (with_reducible refine w_call0 ?_) | (with_reducible refine w_sl ?_) | (with_reducible refine w_nop ?_) | (with_reducible refine w_p ?_) | (with_reducible refine w_yes ?_) | (with_reducible refine w_c ?_) | (with_reducible refine w_un ?_) | (with_reducible refine w_par ?_) | (with_reducible refine w_asg ?_) | (with_reducible refine o_add ?_) | (with_reducible refine o_sub ?_) | (with_reducible refine o_lt ?_) | (with_reducible refine o_le ?_) | (with_reducible refine o_gt ?_) | (with_reducible refine o_ge ?_) | (with_reducible refine o_eqs ?_) | (with_reducible refine o_eqi ?_) | (with_reducible refine o_eqb ?_) | (with_reducible refine o_nes ?_) | (with_reducible refine o_nei ?_) | (with_reducible refine o_isnn ?_) | (with_reducible refine o_isni ?_) | (with_reducible refine o_isns ?_) | (with_reducible refine o_min ?_) | (with_reducible refine o_int ?_) | (with_reducible refine o_neg ?_) | (with_reducible refine o_lenT ?_) | (with_reducible refine o_lenL ?_) | (with_reducible refine sq_nx ?_) | (with_reducible refine sq_rt ?_) | ((with_reducible apply w_var); focus exact rfl) | (with_reducible refine w_tup ?_) | (with_reducible refine w_lst ?_) | (with_reducible refine w_new ?_) | ((with_reducible refine sz_and ?_ ?_); focus (simp only [List.length_cons, List.length_nil, sL] <;> omega)) | (with_reducible refine w_meth ?_)  | (with_reducible refine w_dput ?_) | (with_reducible refine w_dget ?_) | (with_reducible refine w_dget2 ?_) | ((with_reducible apply ex_rfl); focus exact rfl) | (with_reducible refine o_mod (by decide) ?_))

def shutL (rows : List Row) (t : Nat) : Bool := decide (0 < t) && (isClosed (rowAt rows 0) && ((((rows.drop 1).take (t - 1)).filter isCall).map Row.d).isEmpty)
theorem cut_one {α : Type} (xs : List α) (t : Nat) (h : t ≤ xs.length) : FS.cutD xs (some 1) (some (t : Int)) = (xs.drop 1).take (t - 1) := by
  unfold FS.cutD
  rw [sIx_nat, show HT.sIx xs.length 0 (some 1) = min 1 xs.length from sIx_nat (k := 1), Nat.min_eq_left h]
  cases xs with
  | nil => simp
  | cons x xs => rw [show min 1 (x :: xs).length = 1 by simp]
theorem run_shut {rows : List Row} {rd : D} {t : Nat} {S : Sto} (c : Clo S) (hr : sqOf S rd = some (rows.map Row.d)) (hk : ∀ r ∈ rows, ROk r) (ht : t ≤ rows.length) (hl : rows.length ≤ 1000) :
    F__law_is_shut [rd, .int t] S = some (.bl (shutL rows t), S) := by
  refine settled_same ?_ c rfl
  have main : W2 (runFn 2 3 b__law_is_shut [rd, .int t] S) fun d S' => d = .bl (shutL rows t) ∧ S' = S := by
    refine w_run rfl ?_
    unfold b__law_is_shut
    repeat walk_at "v"
    refine ⟨fun h => ?_, fun h => ?_⟩
    · have h1 : 0 < t := by have := of_decide_eq_true h; omega
      repeat walk_at "v"
      refine w1 (row_ix (n := 0) hr (by omega)) ?_
      repeat walk_at "v"
      have hr0 : ROk (rowAt rows 0) := hk _ (List.mem_of_getElem? (rowAt_get (by omega)))
      refine w1 (closed_eq hr0) ?_
      repeat walk_at "v"
      refine ⟨fun h2 => ?_, fun h2 => ?_⟩
      · (with_reducible refine w_bin ?_)
        refine w_lcsel Row.d isCall Row.d ((rows.drop 1).take (t - 1)) none (w_src1 ?_) rfl (fun r hr => ?_) ?_
        · repeat walk_at "v"
          obtain ⟨e, e1, e2⟩ := slice_any (some 1) (some (t : Int)) hr
          refine w1 e1 ?_
          rw [cut_one _ _ (by rw [List.length_map]; exact ht), ← List.map_drop, ← List.map_take] at e2
          exact ⟨e2, rfl⟩
        · refine ⟨_, rfl, ?_, fun h => ?_⟩
          · repeat walk_at "v"
            refine w1 (tag_at _ _) ?_
            repeat walk_at "v"
            exact ⟨tag_call _, rfl⟩
          · repeat walk_at "v"
            exact ⟨rfl, rfl⟩
        · repeat walk_at "v"
          have hn : NiceL ((((rows.drop 1).take (t - 1)).filter isCall).map Row.d) 3 ((160000 + 2) * ((((rows.drop 1).take (t - 1)).filter isCall).map Row.d).length) := NiceL.all fun d hd => by
            obtain ⟨r, hr, rfl⟩ := List.mem_map.mp hd
            exact nice_row (hk r (List.mem_of_mem_drop (List.mem_of_mem_take (List.mem_filter.mp hr).1)))
          refine w1 (eqO_nil false hn (by decide)) ⟨_, rfl, ?_, rfl⟩
          unfold shutL
          rw [decide_eq_true h1, h2, Bool.true_and, Bool.true_and]
          rfl
      · refine ⟨_, rfl, ?_, rfl⟩
        unfold shutL
        rw [h2, Bool.false_and, Bool.and_false]
    · have h1 : ¬ 0 < t := by have := of_decide_eq_false h; omega
      refine ⟨_, rfl, ?_, rfl⟩
      unfold shutL
      rw [decide_eq_false h1, Bool.false_and]
  obtain ⟨d, S', e, rfl, rfl⟩ := main
  exact e
/-! ### draws on the way -/
theorem set_app {S T : Sto} {r : Nat} (h : r < S.length) (u v : MO) : (S.set r u ++ T).set r v = S.set r v ++ T := by
  rw [List.set_append_left _ _ (by rw [List.length_set]; exact h), List.set_set]
theorem get_app {S T : Sto} {r : Nat} (h : r < S.length) (u : MO) : (S.set r u ++ T)[r]? = some u := by
  rw [List.getElem?_append_left (by rw [List.length_set]; exact h), List.getElem?_set_self h]
theorem draw_at {S T : Sto} {r c : Nat} {u : MO} {many : Int} {Q : D → Sto → Prop} (cS : Clo (S.set r u ++ T)) (hr : r < S.length) (hu : RdM u c) (hc : c ≤ 100000) (hm : 0 < many) (hm2 : many < 1073741824)
    (k : ∀ i u', 0 ≤ i → i < many → RdM u' (c + 1) → Q (.int i) (S.set r u' ++ T)) : W2 (F__law_draw [.ref r, .int many] (S.set r u ++ T)) Q := by
  obtain ⟨i, u', e, h1, h2, h3⟩ := run_draw cS (get_app hr u) hu hc hm hm2
  rw [set_app hr] at e
  exact w2 e (k i u' h2 h3 h1)
theorem draw_at0 {S : Sto} {r c : Nat} {u : MO} {many : Int} {Q : D → Sto → Prop} (cS : Clo (S.set r u)) (hr : r < S.length) (hu : RdM u c) (hc : c ≤ 100000) (hm : 0 < many) (hm2 : many < 1073741824)
    (k : ∀ i u', 0 ≤ i → i < many → RdM u' (c + 1) → Q (.int i) (S.set r u')) : W2 (F__law_draw [.ref r, .int many] (S.set r u)) Q := by
  have := draw_at (T := []) (Q := Q) (by rw [List.append_nil]; exact cS) hr hu hc hm hm2 (fun i u' a b c => by rw [List.append_nil]; exact k i u' a b c)
  rwa [List.append_nil] at this
theorem lmOf_set {S : Sto} {r : Nat} {v : MO} {kvs : List (Key × D)} {d : D} {xs : List D} (hd : S[r]? = some (.dct kvs)) (h : lmOf S d = some xs) : lmOf (S.set r v) d = some xs := by
  unfold lmOf at h ⊢
  split at h
  · exact h
  · rename_i n
    by_cases e : r = n
    · subst e; rw [hd] at h; cases h
    · rw [List.getElem?_set_ne e]; exact h
  · cases h
theorem lmOf_app {S T : Sto} {d : D} {xs : List D} (h : lmOf S d = some xs) : lmOf (S ++ T) d = some xs := by
  unfold lmOf at h ⊢
  split at h
  · exact h
  · rename_i n
    split at h
    · rename_i ys e
      rw [List.getElem?_append_left (List.getElem?_eq_some_iff.mp e).1, e]
      exact h
    · cases h
  · cases h
theorem sq_lm {S : Sto} {d : D} {xs : List D} (h : lmOf S d = some xs) : sqOf S d = some xs := sqOf_of_ls (lsOf_lm h)
theorem w_forq {r : Gs} {t : Tg} {b : B} {ρ : Rho} {S : Sto} {Q3 : Flw → Rho → Sto → Prop} (P : Nat → Sto → Prop) (St : Nat → Nat → Rho → Sto → Prop)
    (h : W2 (r ρ S) fun xs S1 => ∃ n : Nat, xs = [.int n] ∧ n ≤ 1000000 ∧ P n S1) (h0 : ∀ n S1, P n S1 → St n 0 ρ S1)
    (hs : ∀ n i, i < n → ∀ ρ S, St n i ρ S → ∃ ρ1, t (.int (i : Int)) ρ = some ρ1 ∧ W3 (b ρ1 S) fun fl ρ2 S2 => (fl = .nx ∨ fl = .ct) ∧ St n (i + 1) ρ2 S2)
    (k : ∀ n ρ' S', St n n ρ' S' → Q3 .nx ρ' S') : W3 (cFor (sRng1 r) t b ρ S) Q3 := by
  obtain ⟨xs, S1, e, n, rfl, hn, hP⟩ := h
  refine w_forr (S1 := S1) n (St n) ?_ (h0 n S1 hP) (hs n) (k n)
  unfold sRng1
  rw [e]
  dsimp only
  rw [if_pos ⟨by omega, by omega⟩]
  simp
/-! ### fills that are drawn -/
def sideD : Option Str → D
  | none => .non
  | some s => .str s
def zsum (fs : List Fill) : Int := (fs.map (·.z)).sum
def late (rows : List Row) (fs : List Fill) : List Row := rows ++ [.prints fs]
def sgn (s : Str) : Int := if (s == ("buy" : Str)) = true then 1 else -1
structure Cand (rows : List Row) (fs : List Fill) (side : Option Str) (limit : Int) (k : Nat) : Prop where
  opn : k ∈ openL (late rows fs) rows.length fs.length
  other : ∀ s, side = some s → (sideOf (rowAt rows k) == s) = false
  price : ∀ s, side = some s → (priceOf (rowAt rows k) - limit) * sgn s ≤ 0
structure FillBy (rows : List Row) (left : Int) (side : Option Str) (limit : Int) (fs : List Fill) (f : Fill) : Prop where
  one : 1 ≤ f.z
  three : f.z ≤ 3
  fit : f.z ≤ left - zsum fs
  own : ∀ n, f.n = some n → ∃ k : Nat, n = k ∧ Cand rows fs side limit k ∧ f.p = priceOf (rowAt rows k) ∧ f.z ≤ restL (late rows fs) k rows.length fs.length
  free : f.n = none → side = none → 8 ≤ f.p ∧ f.p ≤ 12
  lim : f.n = none → ∀ s, side = some s → 0 ≤ (limit - f.p) * sgn s ∧ (limit - f.p) * sgn s ≤ 2
inductive FillsBy (rows : List Row) (left : Int) (side : Option Str) (limit : Int) : List Fill → Prop
  | nil : FillsBy rows left side limit []
  | snoc {fs f} (h : FillsBy rows left side limit fs) (s : FillBy rows left side limit fs f) : FillsBy rows left side limit (fs ++ [f])
theorem open_lt {rows : List Row} {t i k : Nat} (h : k ∈ openL rows t i) : k < t ∧ k < rows.length ∧ isOrd (rowAt rows k) = true := by
  have h1 := List.mem_filter.mp h
  have h2 := List.mem_filter.mp h1.1
  have h3 := h1.2
  unfold openP at h3
  simp only [Bool.and_eq_true, decide_eq_true_eq] at h3
  exact ⟨h3.1.1, by simpa using h2.1, h2.2⟩
theorem late_at {rows : List Row} {fs : List Fill} {k : Nat} (h : k < rows.length) : rowAt (late rows fs) k = rowAt rows k := by
  unfold rowAt late
  rw [List.getElem?_append_left h]
theorem Cand.lt {rows : List Row} {fs : List Fill} {side : Option Str} {limit : Int} {k : Nat} (h : Cand rows fs side limit k) : k < rows.length ∧ isOrd (rowAt rows k) = true := by
  obtain ⟨h1, h2, h3⟩ := open_lt h.opn
  rw [late_at h1] at h3
  exact ⟨h1, h3⟩
end Gn
set_option Elab.async false
set_option linter.all false
set_option maxRecDepth 100000
set_option maxHeartbeats 8000000
namespace Gn
open PySem PySem.Spec PyProof.Rows L2 FS
local macro_rules | `(tactic| walk_at "w") => `(tactic| first | (with_reducible refine w_seq ?_) | (with_reducible refine w_set ?_) | (with_reducible refine w_ret ?_) | (with_reducible refine w_drop ?_) | (with_reducible refine w_nx ?_) | (with_reducible refine w_bin ?_) | (with_reducible refine w_test ?_) | (with_reducible refine w_andT ?_) | (with_reducible refine w_orT ?_) | (with_reducible refine w_notT ?_) | (with_reducible refine w_and ?_) | (with_reducible refine w_nil ?_) | (with_reducible refine w_cons ?_) | (with_reducible refine w_op ?_) | (with_reducible refine w_call0 ?_) | (with_reducible refine w_sl ?_) | (with_reducible refine w_nop ?_) | (with_reducible refine w_p ?_) | (with_reducible refine w_yes ?_) | (with_reducible refine w_c ?_) | (with_reducible refine w_un ?_) | (with_reducible refine w_par ?_) | (with_reducible refine w_asg ?_) | (with_reducible refine w_ifs ?_) | (with_reducible refine w_if ?_) | (with_reducible refine o_add ?_) | (with_reducible refine o_sub ?_) | (with_reducible refine o_lt ?_) | (with_reducible refine o_le ?_) | (with_reducible refine o_gt ?_) | (with_reducible refine o_ge ?_) | (with_reducible refine o_eqs ?_) | (with_reducible refine o_eqi ?_) | (with_reducible refine o_eqb ?_) | (with_reducible refine o_nes ?_) | (with_reducible refine o_nei ?_) | (with_reducible refine o_isnn ?_) | (with_reducible refine o_isni ?_) | (with_reducible refine o_isns ?_) | (with_reducible refine o_min ?_) | (with_reducible refine o_int ?_) | (with_reducible refine o_neg ?_) | (with_reducible refine o_lenT ?_) | (with_reducible refine o_lenL ?_) | (with_reducible refine sq_nx ?_) | (with_reducible refine sq_rt ?_) | ((with_reducible apply w_var); focus exact rfl) | (with_reducible refine w_tup ?_) | (with_reducible refine w_lst ?_) | (with_reducible refine w_new ?_) | ((with_reducible refine sz_and ?_ ?_); focus (simp only [List.length_cons, List.length_nil, sL] <;> omega)) | (with_reducible refine w_meth ?_) | (with_reducible refine w_lc ?_) | (with_reducible refine w_dput ?_) | (with_reducible refine w_dget ?_) | (with_reducible refine w_dget2 ?_) | ((with_reducible apply ex_rfl); focus exact rfl) | (with_reducible refine o_mod (by decide) ?_))
local macro_rules | `(tactic| walk_at "v") => `(tactic| first | (with_reducible refine w_seq ?_) | (with_reducible refine w_set ?_) | (with_reducible refine w_ret ?_) | (with_reducible refine w_drop ?_) | (with_reducible refine w_nx ?_) | (with_reducible refine w_bin ?_) | (with_reducible refine w_test ?_) | (with_reducible refine w_andT ?_) | (with_reducible refine w_orT ?_) | (with_reducible refine w_notT ?_) | (with_reducible refine w_and ?_) | (with_reducible refine w_nil ?_) | (with_reducible refine w_cons ?_) | (with_reducible refine w_op ?_) | (with_reducible refine w_call0 ?_) | (with_reducible refine w_sl ?_) | (with_reducible refine w_nop ?_) | (with_reducible refine w_p ?_) | (with_reducible refine w_yes ?_) | (with_reducible refine w_c ?_) | (with_reducible refine w_un ?_) | (with_reducible refine w_par ?_) | (with_reducible refine w_asg ?_) | (with_reducible refine o_add ?_) | (with_reducible refine o_sub ?_) | (with_reducible refine o_lt ?_) | (with_reducible refine o_le ?_) | (with_reducible refine o_gt ?_) | (with_reducible refine o_ge ?_) | (with_reducible refine o_eqs ?_) | (with_reducible refine o_eqi ?_) | (with_reducible refine o_eqb ?_) | (with_reducible refine o_nes ?_) | (with_reducible refine o_nei ?_) | (with_reducible refine o_isnn ?_) | (with_reducible refine o_isni ?_) | (with_reducible refine o_isns ?_) | (with_reducible refine o_min ?_) | (with_reducible refine o_int ?_) | (with_reducible refine o_neg ?_) | (with_reducible refine o_lenT ?_) | (with_reducible refine o_lenL ?_) | (with_reducible refine sq_nx ?_) | (with_reducible refine sq_rt ?_) | ((with_reducible apply w_var); focus exact rfl) | (with_reducible refine w_tup ?_) | (with_reducible refine w_lst ?_) | (with_reducible refine w_new ?_) | ((with_reducible refine sz_and ?_ ?_); focus (simp only [List.length_cons, List.length_nil, sL] <;> omega)) | (with_reducible refine w_meth ?_) | (with_reducible refine w_lc ?_) | (with_reducible refine w_dput ?_) | (with_reducible refine w_dget ?_) | (with_reducible refine w_dget2 ?_) | ((with_reducible apply ex_rfl); focus exact rfl) | (with_reducible refine o_mod (by decide) ?_))
local macro_rules | `(tactic| walk_at "u") => `(tactic| first | (with_reducible refine w_seq ?_) | (with_reducible refine w_set ?_) | (with_reducible refine w_ret ?_) | (with_reducible refine w_drop ?_) | (with_reducible refine w_nx ?_) | (with_reducible refine w_bin ?_) | (with_reducible refine w_test ?_) | (with_reducible refine w_andT ?_) | (with_reducible refine w_orT ?_) | (with_reducible refine w_notT ?_) | (with_reducible refine w_and ?_) | (with_reducible refine w_nil ?_) | (with_reducible refine w_cons ?_) | (with_reducible refine w_op ?_) | (with_reducible refine w_call0 ?_) | (with_reducible refine w_sl ?_) | (with_reducible refine w_nop ?_) | (with_reducible refine w_p ?_) | (with_reducible refine w_yes ?_) | (with_reducible refine w_c ?_) | (with_reducible refine w_un ?_) | (with_reducible refine w_par ?_) | (with_reducible refine w_asg ?_) | (with_reducible refine o_add ?_) | (with_reducible refine o_sub ?_) | (with_reducible refine o_lt ?_) | (with_reducible refine o_le ?_) | (with_reducible refine o_gt ?_) | (with_reducible refine o_ge ?_) | (with_reducible refine o_eqs ?_) | (with_reducible refine o_eqi ?_) | (with_reducible refine o_eqb ?_) | (with_reducible refine o_nes ?_) | (with_reducible refine o_nei ?_) | (with_reducible refine o_isnn ?_) | (with_reducible refine o_isni ?_) | (with_reducible refine o_isns ?_) | (with_reducible refine o_min ?_) | (with_reducible refine o_int ?_) | (with_reducible refine o_neg ?_) | (with_reducible refine o_lenT ?_) | (with_reducible refine o_lenL ?_) | (with_reducible refine sq_nx ?_) | (with_reducible refine sq_rt ?_) | ((with_reducible apply w_var); focus exact rfl) | (with_reducible refine w_tup ?_) | (with_reducible refine w_lst ?_) | (with_reducible refine w_new ?_) | ((with_reducible refine sz_and ?_ ?_); focus (simp only [List.length_cons, List.length_nil, sL] <;> omega)) | (with_reducible refine w_meth ?_)  | (with_reducible refine w_dput ?_) | (with_reducible refine w_dget ?_) | (with_reducible refine w_dget2 ?_) | ((with_reducible apply ex_rfl); focus exact rfl) | (with_reducible refine o_mod (by decide) ?_))

theorem addO_lm {S : Sto} {x y : D} {a b : List D} (hx : lmOf S x = some a) (hy : lmOf S y = some b) (hl : a.length + b.length ≤ sizeLine) : addO S x y = some (.lst (a ++ b)) := by
  cases x <;> first
    | cases hx; done
    | (cases y <;> first
        | cases hy; done
        | (unfold addO; simp only [hx, hy]; rw [if_pos hl]))
theorem tupleO_sq {S : Sto} {d : D} {xs : List D} (h : sqOf S d = some xs) : tupleO S [d] = some (.tup xs) := congrArg (Option.map D.tup) h
theorem own_at {S : Sto} {r : Nat} {u x : MO} : (S.set r u ++ [x])[S.length]? = some x := by
  rw [List.getElem?_append_right (by rw [List.length_set]; exact Nat.le_refl _), List.length_set, Nat.sub_self]
  rfl
theorem own_set {S : Sto} {r : Nat} {u x y : MO} : (S.set r u ++ [x]).set S.length y = S.set r u ++ [y] := by
  rw [List.set_append_right _ _ (by rw [List.length_set]; exact Nat.le_refl _), List.length_set, Nat.sub_self]
  rfl
theorem own_sq {S : Sto} {r : Nat} {u : MO} {xs : List D} : sqOf (S.set r u ++ [.lst xs]) (.ref S.length) = some xs := by
  refine sqOf_of_ls ?_
  unfold lsOf
  simp only [own_at]
theorem same_set {S : Sto} {r : Nat} {u : MO} (h : S[r]? = some u) : S.set r u = S := by
  obtain ⟨h1, h2⟩ := List.getElem?_eq_some_iff.mp h
  subst h2
  exact List.set_getElem_self h1
abbrev nf (r : Nat) (rd : D) (most left : Int) (sd : D) (limit : Int) (m : Nat) (t : Int) (x8 x9 x10 x11 x12 x13 x14 x15 : Option D) : Rho :=
  [some (.ref r), some rd, some (.int most), some (.int left), some sd, some (.int limit), some (.ref m), some (.int t), x8, x9, x10, x11, x12, x13, x14, x15]
theorem late_d (rows : List Row) (fs : List Fill) : rows.map Row.d ++ [.tup [.str "prints", .tup (fs.map Fill.d)]] = (late rows fs).map Row.d := by
  unfold late
  rw [List.map_append]
  rfl
theorem late_short {rows : List Row} {fs : List Fill} (h : Short rows) (hl : rows.length ≤ 900) (hf : fs.length ≤ 1000) : Short (late rows fs) := by
  refine ⟨by unfold late; rw [List.length_append, List.length_singleton]; omega, fun r hr => ?_⟩
  rcases List.mem_append.mp hr with hr | hr
  · exact h.2 r hr
  · rw [List.mem_singleton] at hr
    subst hr
    exact ⟨hf, by simp [callPs]⟩
theorem nice_ints {l : List Int} (h : ∀ i ∈ l, Sm i) : NiceL (l.map .int) 0 ((1921 + 2) * (l.map D.int).length) := NiceL.all fun d hd => by
  obtain ⟨i, hi, rfl⟩ := List.mem_map.mp hd
  exact .int (h i hi).wide
theorem some_nats (S : Sto) (neg : Bool) (L : List Nat) (h : ∀ k ∈ L, k < 1000) : eqO neg S (.lst (L.map fun (k : Nat) => .int k)) (.lst []) = some (.bl (if neg then !L.isEmpty else L.isEmpty)) := by
  have e : (L.map fun (k : Nat) => D.int k) = (L.map fun (k : Nat) => (k : Int)).map .int := by rw [List.map_map]; rfl
  rw [e, eqO_nil neg (nice_ints fun i hi => ?_) (by decide)]
  · cases L <;> rfl
  · obtain ⟨k, hk, rfl⟩ := List.mem_map.mp hi
    have := h k hk
    exact sm_bd (by omega) (by omega)
def optN : Option Nat → D
  | none => .non
  | some k => .int k
theorem open_len (rows : List Row) (t i : Nat) : (openL rows t i).length ≤ rows.length := by
  refine Nat.le_trans (List.length_filter_le _ _) (Nat.le_trans (List.length_filter_le _ _) ?_)
  rw [List.length_range]
  exact Nat.le_refl _
theorem isO_opt (neg : Bool) (S : Sto) (o : Option Nat) : isO neg S (optN o) .non = some (.bl (if o.isSome then neg else !neg)) := by
  cases o <;> rfl
theorem src_ref {i m : Nat} {ρ : Rho} {S : Sto} {xs : List D} (h : ρ[i]? = some (some (.ref m))) (h2 : S[m]? = some (.lst xs)) : sSeq (cVar i) ρ S = some (xs, some m, S) := by
  unfold sSeq cVar
  rw [h]
  dsimp only
  rw [h2]
theorem run_new_fills {rows : List Row} {rd : D} {r c most : Nat} {u : MO} {left limit : Int} {side : Option Str} {S : Sto} (cS : Clo S) (hu : S[r]? = some u) (hR : RdM u c) (hs : Short rows) (hl : rows.length ≤ 900) (hm : most ≤ 10)
    (hrd : lmOf S rd = some (rows.map Row.d)) (hc : c + 1 + 5 * most ≤ 100000) :
    ∃ fs u', F__law_new_fills [.ref r, rd, .int most, .int left, sideD side, .int limit] S = some (.tup (fs.map Fill.d), S.set r u') ∧ RdM u' (c + 1 + 5 * most) ∧ FillsBy rows left side limit fs ∧ fs.length ≤ most := by
  obtain ⟨kvs, hkvs⟩ : ∃ kvs, S[r]? = some (.dct kvs) := by
    obtain ⟨a, b, d, e, rfl, _⟩ := id hR
    exact ⟨_, hu⟩
  have hr : r < S.length := (List.getElem?_eq_some_iff.mp hu).1
  have hrd1 : ∀ v T, lmOf (S.set r v ++ T) rd = some (rows.map Row.d) := fun v T => lmOf_app (lmOf_set hkvs hrd)
  have cS1 : ∀ (v : MO) (n : Nat) (fs : List Fill), RdM v n → Clo (S.set r v ++ [.lst (fs.map Fill.d)]) := fun v n fs h => (cS.set h.closed).app (closed_fills _ _)
  have main : W2 (runFn 6 16 b__law_new_fills [.ref r, rd, .int most, .int left, sideD side, .int limit] S) fun d S' => ∃ fs u', d = .tup (fs.map Fill.d) ∧ S' = S.set r u' ++ [.lst (fs.map Fill.d)] ∧ RdM u' (c + 1 + 5 * most) ∧ FillsBy rows left side limit fs ∧ fs.length ≤ most := by
    refine w_run rfl ?_
    unfold b__law_new_fills
    refine w_mid (fun ρ1 S1 => ρ1 = nf r rd most left (sideD side) limit S.length rows.length none none none none none none none none ∧ S1 = S.set r u ++ [.lst []]) ?_ ?_
    · repeat walk_at "v"
      refine w1 (lenO_sq (sqOf_app (sq_lm hrd))) ?_
      repeat walk_at "v"
      refine ⟨_, _, rfl, rfl, ?_, by rw [same_set hu]⟩
      rw [List.length_map]
      rfl
    rintro ρ1 S1 ⟨rfl, rfl⟩
    (with_reducible refine w_seq ?_)
    refine w_forq (fun n S1 => n ≤ most ∧ ∃ u', S1 = S.set r u' ++ [.lst []] ∧ RdM u' (c + 1))
      (fun n k ρ S1 => n ≤ most ∧ ∃ x8 x9 x10 x11 x12 x13 x14 x15 u' fs, ρ = nf r rd most left (sideD side) limit S.length rows.length x8 x9 x10 x11 x12 x13 x14 x15 ∧ S1 = S.set r u' ++ [.lst (fs.map Fill.d)] ∧ RdM u' (c + 1 + 5 * k) ∧ FillsBy rows left side limit fs ∧ fs.length ≤ k) ?_ ?_ ?_ ?_
    · repeat walk_at "v"
      refine draw_at (cS1 _ _ [] hR) hr hR (by omega) (by omega) (by omega) fun i u' h0 h1 hu' => ?_
      repeat walk_at "v"
      exact ⟨i.toNat, by rw [Int.toNat_of_nonneg h0], by omega, by omega, u', rfl, hu'⟩
    · rintro n S1 ⟨hn, u', rfl, hu'⟩
      exact ⟨hn, _, _, _, _, _, _, _, _, u', [], rfl, rfl, hu', .nil, Nat.le_refl _⟩
    · rintro n k hkn ρ S1 ⟨hn, x8, x9, x10, x11, x12, x13, x14, x15, u1, fs, rfl, rfl, hu1, hfs, hlen⟩
      have hrows : ∀ k, k < rows.length → ixO (S.set r u1 ++ [.lst (fs.map Fill.d)]) rd (.int (k : Int)) = some (rowAt rows k).d := fun k hk => row_ix (sq_lm (hrd1 _ _)) hk
      have hshort : Short (late rows fs) := late_short hs hl (by omega)
      have clt : ∀ j, Cand rows fs side limit j → j < 1000 := fun j hj => by have := hj.lt.1; omega
      refine ⟨_, rfl, ?_⟩
      refine w_mid (fun ρ1 S1 => ρ1 = nf r rd most left (sideD side) limit S.length rows.length (some (.int (k : Int))) (some (.lst ((late rows fs).map Row.d))) x10 x11 x12 x13 x14 x15 ∧ S1 = S.set r u1 ++ [.lst (fs.map Fill.d)]) ?_ ?_
      · repeat walk_at "v"
        refine w1 (tupleO_sq own_sq) ?_
        repeat walk_at "v"
        refine w1 (addO_lm (hrd1 _ _) rfl ?_) ?_
        · rw [List.length_map, sL, List.length_singleton]; omega
        · rw [late_d]
          exact ⟨rfl, rfl, rfl⟩
      rintro ρ1 S1 ⟨rfl, rfl⟩
      -- the orders it may name
      refine w_mid (fun ρ1 S1 => ∃ L : List Nat, ρ1 = nf r rd most left (sideD side) limit S.length rows.length (some (.int (k : Int))) (some (.lst ((late rows fs).map Row.d))) (some (.lst (L.map fun (k : Nat) => .int k))) x11 x12 x13 x14 x15 ∧ S1 = S.set r u1 ++ [.lst (fs.map Fill.d)] ∧ L.length ≤ 1000 ∧ ∀ k ∈ L, k ∈ openL (late rows fs) rows.length fs.length ∧ ∀ s, side = some s → (sideOf (rowAt rows k) == s) = false) ?_ ?_
      · (with_reducible refine w_set ?_)
        refine w_lcsel (fun (k : Nat) => .int k) (fun k => match side with | none => true | some s => !(sideOf (rowAt rows k) == s)) (fun (k : Nat) => .int k) (openL (late rows fs) rows.length fs.length) none (w_src1 ?_) rfl (fun j hj => ?_) ?_
        · repeat walk_at "v"
          refine w1 (lenO_sq own_sq) ?_
          repeat walk_at "v"
          rw [List.length_map]
          exact w2 (run_open (cS1 _ _ fs hu1) hshort rfl) ⟨.inr rfl, rfl⟩
        · have hj2 : j < rows.length ∧ isOrd (rowAt rows j) = true := by
            obtain ⟨a, b, d⟩ := open_lt hj
            rw [late_at a] at d
            exact ⟨a, d⟩
          refine ⟨_, rfl, ?_, fun h => ?_⟩
          · cases side with
            | none =>
              unfold sideD
              repeat walk_at "v"
              refine ⟨fun _ => ⟨rfl, rfl⟩, fun h => by cases h⟩
            | some s =>
              unfold sideD
              repeat walk_at "v"
              refine ⟨fun h => (by cases h), fun _ => ?_⟩
              repeat walk_at "v"
              refine w1 (hrows j hj2.1) ?_
              repeat walk_at "v"
              refine w1 (side_at _ hj2.2) ?_
              repeat walk_at "v"
              exact ⟨rfl, rfl⟩
          · repeat walk_at "v"
            exact ⟨rfl, rfl⟩
        · refine ⟨rfl, _, rfl, rfl, Nat.le_trans (List.length_filter_le _ _) (Nat.le_trans (open_len _ _ _) hshort.1), fun j hj => ?_⟩
          obtain ⟨h1, h2⟩ := List.mem_filter.mp hj
          refine ⟨h1, fun s hs => ?_⟩
          subst hs
          simpa using h2
      rintro ρ1 S1 ⟨L0, rfl, rfl, hL0s, hL0⟩
      refine w_mid (fun ρ1 S1 => ∃ L : List Nat, ρ1 = nf r rd most left (sideD side) limit S.length rows.length (some (.int (k : Int))) (some (.lst ((late rows fs).map Row.d))) (some (.lst (L.map fun (k : Nat) => .int k))) x11 x12 x13 x14 x15 ∧ S1 = S.set r u1 ++ [.lst (fs.map Fill.d)] ∧ L.length ≤ 1000 ∧ ∀ k ∈ L, Cand rows fs side limit k) ?_ ?_
      · cases side with
        | none =>
          unfold sideD
          (with_reducible refine w_ifs ?_)
          repeat walk_at "v"
          refine ⟨fun h => (by cases h), fun _ => ?_⟩
          repeat walk_at "v"
          exact ⟨rfl, L0, rfl, rfl, hL0s, fun j hj => ⟨(hL0 j hj).1, (fun s h => nomatch h), (fun s h => nomatch h)⟩⟩
        | some s =>
          unfold sideD
          (with_reducible refine w_ifs ?_)
          repeat walk_at "v"
          refine ⟨fun _ => ?_, fun h => (by cases h)⟩
          (with_reducible refine w_set ?_)
          refine w_lcsel (fun (k : Nat) => .int k) (fun k => decide ((priceOf (rowAt rows k) - limit) * sgn s ≤ 0)) (fun (k : Nat) => .int k) L0 none (w_src1 ?_) rfl (fun j hj => ?_) ?_
          · repeat walk_at "v"
            exact ⟨.inr rfl, rfl⟩
          · have hj2 : j < rows.length ∧ isOrd (rowAt rows j) = true := by
              obtain ⟨a, b, d⟩ := open_lt (hL0 j hj).1
              rw [late_at a] at d
              exact ⟨a, d⟩
            refine ⟨_, rfl, ?_, fun h => ?_⟩
            · repeat walk_at "v"
              refine w1 (hrows j hj2.1) ?_
              repeat walk_at "v"
              refine w1 (price_at _ hj2.2) ?_
              repeat walk_at "v"
              refine w2_mid (fun d S1 => d = .int (sgn s) ∧ S1 = S.set r u1 ++ [.lst (fs.map Fill.d)]) ?_ ?_
              · (with_reducible refine w_if ?_)
                repeat walk_at "v"
                refine ⟨fun h => ?_, fun h => ?_⟩
                · repeat walk_at "v"
                  exact ⟨by unfold sgn; rw [if_pos h], rfl⟩
                · repeat walk_at "v"
                  exact ⟨by unfold sgn; rw [if_neg (by rw [h]; exact Bool.false_ne_true)], rfl⟩
              · rintro d S1 ⟨rfl, rfl⟩
                refine o_mul (.inr ?_) ?_
                · unfold sgn; split <;> decide
                · repeat walk_at "v"
                  exact ⟨rfl, rfl⟩
            · repeat walk_at "v"
              exact ⟨rfl, rfl⟩
          · refine ⟨rfl, _, rfl, rfl, Nat.le_trans (List.length_filter_le _ _) hL0s, fun j hj => ?_⟩
            obtain ⟨h1, h2⟩ := List.mem_filter.mp hj
            refine ⟨(hL0 j h1).1, (hL0 j h1).2, fun s' hs' => ?_⟩
            cases hs'
            exact of_decide_eq_true h2
      rintro ρ1 S1 ⟨L, rfl, rfl, hLs, hL⟩
      -- what is left
      refine w_mid (fun ρ1 S1 => ρ1 = nf r rd most left (sideD side) limit S.length rows.length (some (.int (k : Int))) (some (.lst ((late rows fs).map Row.d))) (some (.lst (L.map fun (k : Nat) => .int k))) (some (.int (left - zsum fs))) x12 x13 x14 x15 ∧ S1 = S.set r u1 ++ [.lst (fs.map Fill.d)]) ?_ ?_
      · (with_reducible refine w_set ?_)
        repeat walk_at "u"
        refine w_lcsel Fill.d (fun _ => true) (fun f => .int f.z) fs (some S.length) (src_ref rfl own_at) (still_at own_at) (fun f hf => ?_) ?_
        · refine ⟨_, rfl, ?_, fun _ => ?_⟩
          · repeat walk_at "v"
            exact ⟨rfl, rfl⟩
          · repeat walk_at "v"
            exact w1 (ix1 _ _ _ _) ⟨rfl, rfl⟩
        · have e := sum_ints (S := S.set r u1 ++ [.lst (fs.map Fill.d)]) (fs.map (·.z))
          rw [List.map_map] at e
          rw [List.filter_eq_self.mpr (fun _ _ => rfl)]
          repeat walk_at "v"
          refine w1 e ?_
          repeat walk_at "v"
          exact ⟨rfl, rfl, rfl⟩
      rintro ρ1 S1 ⟨rfl, rfl⟩
      -- who takes part
      refine w_mid (fun ρ1 S1 => ∃ (o : Option Nat) (u2 : MO), ρ1 = nf r rd most left (sideD side) limit S.length rows.length (some (.int (k : Int))) (some (.lst ((late rows fs).map Row.d))) (some (.lst (L.map fun (k : Nat) => .int k))) (some (.int (left - zsum fs))) (some (optN o)) x13 x14 x15 ∧ S1 = S.set r u2 ++ [.lst (fs.map Fill.d)] ∧ RdM u2 (c + 1 + 5 * k + 2) ∧ ∀ j, o = some j → Cand rows fs side limit j) ?_ ?_
      · (with_reducible refine w_set ?_)
        (with_reducible refine w_if ?_)
        repeat walk_at "v"
        refine w1 (some_nats _ true L fun j hj => clt j (hL j hj)) ?_
        repeat walk_at "v"
        refine ⟨fun h => ?_, fun h => ?_⟩
        · have hLn : L ≠ [] := by rintro rfl; cases h
          have hLp : 0 < L.length := List.length_pos_iff.mpr hLn
          repeat walk_at "v"
          refine draw_at (cS1 _ _ fs hu1) hr hu1 (by omega) (by decide) (by decide) fun i2 u2 h20 h21 hu2 => ?_
          repeat walk_at "v"
          refine ⟨fun h2 => ?_, fun h2 => ?_⟩
          · repeat walk_at "v"
            refine draw_at (cS1 _ _ fs hu2) hr hu2 (by omega) (by rw [List.length_map]; omega) (by rw [List.length_map]; omega) fun i3 u3 h30 h31 hu3 => ?_
            rw [List.length_map] at h31
            obtain ⟨j3, rfl⟩ : ∃ j3 : Nat, i3 = j3 := ⟨i3.toNat, by omega⟩
            have h32 : j3 < L.length := by omega
            refine w1 (a := .int (L[j3] : Nat)) ?_ ?_
            · rw [ixO_sq (xs := L.map fun (k : Nat) => D.int k) rfl, List.getElem?_map, List.getElem?_eq_getElem h32]
              rfl
            · exact ⟨rfl, some L[j3], u3, rfl, rfl, hu3, fun j hj => by cases hj; exact hL _ (List.getElem_mem h32)⟩
          · repeat walk_at "v"
            exact ⟨rfl, none, u2, rfl, rfl, hu2.mono (by omega), fun j hj => by cases hj⟩
        · refine ⟨fun h => (by cases h), fun _ => ?_⟩
          repeat walk_at "v"
          exact ⟨rfl, none, u1, rfl, rfl, hu1.mono (by omega), fun j hj => by cases hj⟩
      rintro ρ1 S1 ⟨o, u2, rfl, rfl, hu2, ho⟩
      have hrows2 : ∀ k, k < rows.length → ∀ v, ixO (S.set r v ++ [.lst (fs.map Fill.d)]) rd (.int (k : Int)) = some (rowAt rows k).d := fun k hk v => row_ix (sq_lm (hrd1 _ _)) hk
      have hz : (fs.map Fill.d).length < sizeLine := by rw [List.length_map, sL]; omega
      -- how much
      refine w_mid (fun ρ1 S1 => ∃ (room : Int), ρ1 = nf r rd most left (sideD side) limit S.length rows.length (some (.int (k : Int))) (some (.lst ((late rows fs).map Row.d))) (some (.lst (L.map fun (k : Nat) => .int k))) (some (.int (left - zsum fs))) (some (optN o)) (some (.int room)) x14 x15 ∧ S1 = S.set r u2 ++ [.lst (fs.map Fill.d)] ∧ room ≤ left - zsum fs ∧ ∀ j, o = some j → room ≤ restL (late rows fs) j rows.length fs.length) ?_ ?_
      · (with_reducible refine w_set ?_)
        (with_reducible refine w_if ?_)
        repeat walk_at "v"
        refine w1 (isO_opt _ _ _) ?_
        repeat walk_at "v"
        cases o with
        | none =>
          refine ⟨fun h => (by cases h), fun _ => ?_⟩
          repeat walk_at "v"
          exact ⟨rfl, _, rfl, rfl, Int.le_refl _, fun j hj => by cases hj⟩
        | some j =>
          have hj := ho j rfl
          obtain ⟨hj1, hj2⟩ := hj.lt
          refine ⟨fun _ => ?_, fun h => (by cases h)⟩
          repeat walk_at "v"
          refine w1 (lenO_sq own_sq) ?_
          repeat walk_at "v"
          rw [List.length_map]
          refine w2 (run_rest (cS1 _ _ fs hu2) hshort rfl (n := j) ?_ ?_) ?_
          · unfold late; rw [List.length_append]; omega
          · rw [late_at hj1]; exact hj2
          · repeat walk_at "v"
            exact ⟨rfl, _, rfl, rfl, by omega, fun j' hj' => by cases hj'; omega⟩
      rintro ρ1 S1 ⟨room, rfl, rfl, hroom1, hroom2⟩
      -- the fill
      have fin0 : RdM u2 (c + 1 + 5 * (k + 1)) := hu2.mono (by omega)
      (with_reducible refine w_ifs ?_)
      repeat walk_at "v"
      refine ⟨fun hpos => ?_, fun hpos => ?_⟩
      · have hp := of_decide_eq_true hpos
        refine w_mid (fun ρ1 S1 => ∃ (p : Int) (u3 : MO), ρ1 = nf r rd most left (sideD side) limit S.length rows.length (some (.int (k : Int))) (some (.lst ((late rows fs).map Row.d))) (some (.lst (L.map fun (k : Nat) => .int k))) (some (.int (left - zsum fs))) (some (optN o)) (some (.int room)) (some (.int p)) x15 ∧ S1 = S.set r u3 ++ [.lst (fs.map Fill.d)] ∧ RdM u3 (c + 1 + 5 * k + 3) ∧ (∀ j, o = some j → p = priceOf (rowAt rows j)) ∧ (o = none → 8 ≤ p ∧ p ≤ 12)) ?_ ?_
        · (with_reducible refine w_set ?_)
          (with_reducible refine w_if ?_)
          repeat walk_at "v"
          refine w1 (isO_opt _ _ _) ?_
          repeat walk_at "v"
          cases o with
          | none =>
            refine ⟨fun h => (by cases h), fun _ => ?_⟩
            repeat walk_at "v"
            refine draw_at (cS1 _ _ fs hu2) hr hu2 (by omega) (by decide) (by decide) fun i2 u3 h20 h21 hu3 => ?_
            repeat walk_at "v"
            exact ⟨rfl, _, u3, rfl, rfl, hu3, (fun j hj => by cases hj), fun _ => ⟨by omega, by omega⟩⟩
          | some j =>
            obtain ⟨hj1, hj2⟩ := (ho j rfl).lt
            refine ⟨fun _ => ?_, fun h => (by cases h)⟩
            repeat walk_at "v"
            refine w1 (hrows2 j hj1 _) ?_
            repeat walk_at "v"
            refine w1 (price_at _ hj2) ?_
            exact ⟨rfl, _, u2, rfl, rfl, hu2.mono (by omega), (fun j hj => by cases hj; rfl), fun h => by cases h⟩
        rintro ρ1 S1 ⟨p, u3, rfl, rfl, hu3, hp1, hp2⟩
        refine w_mid (fun ρ1 S1 => ∃ (p : Int) (u4 : MO), ρ1 = nf r rd most left (sideD side) limit S.length rows.length (some (.int (k : Int))) (some (.lst ((late rows fs).map Row.d))) (some (.lst (L.map fun (k : Nat) => .int k))) (some (.int (left - zsum fs))) (some (optN o)) (some (.int room)) (some (.int p)) x15 ∧ S1 = S.set r u4 ++ [.lst (fs.map Fill.d)] ∧ RdM u4 (c + 1 + 5 * k + 4) ∧ (∀ j, o = some j → p = priceOf (rowAt rows j)) ∧ (o = none → side = none → 8 ≤ p ∧ p ≤ 12) ∧ (o = none → ∀ s, side = some s → 0 ≤ (limit - p) * sgn s ∧ (limit - p) * sgn s ≤ 2)) ?_ ?_
        · (with_reducible refine w_ifs ?_)
          repeat walk_at "v"
          refine w1 (isO_opt _ _ _) ?_
          repeat walk_at "v"
          cases o with
          | some j =>
            refine ⟨fun h => (by cases h), fun _ => ?_⟩
            refine ⟨fun h => (by cases h), fun _ => ?_⟩
            repeat walk_at "v"
            exact ⟨rfl, _, u3, rfl, rfl, hu3.mono (by omega), hp1, (fun h => by cases h), fun h => by cases h⟩
          | none =>
            refine ⟨fun _ => ?_, fun h => (by cases h)⟩
            cases side with
            | none =>
              unfold sideD
              repeat walk_at "v"
              refine ⟨fun h => (by cases h), fun _ => ?_⟩
              repeat walk_at "v"
              exact ⟨rfl, _, u3, rfl, rfl, hu3.mono (by omega), hp1, (fun _ _ => hp2 rfl), fun _ s h => by cases h⟩
            | some s =>
              unfold sideD
              repeat walk_at "v"
              refine ⟨fun _ => ?_, fun h => (by cases h)⟩
              repeat walk_at "v"
              refine draw_at (cS1 _ _ fs hu3) hr hu3 (by omega) (by decide) (by decide) fun i4 u4 h40 h41 hu4 => ?_
              refine w2_mid (fun d S1 => d = .int (-sgn s) ∧ S1 = S.set r u4 ++ [.lst (fs.map Fill.d)]) ?_ ?_
              · (with_reducible refine w_if ?_)
                repeat walk_at "v"
                refine ⟨fun h => ?_, fun h => ?_⟩
                · repeat walk_at "v"
                  exact ⟨by unfold sgn; rw [if_pos h], rfl⟩
                · repeat walk_at "v"
                  exact ⟨by unfold sgn; rw [if_neg (by rw [h]; exact Bool.false_ne_true)]; rfl, rfl⟩
              · rintro d S1 ⟨rfl, rfl⟩
                refine o_mul (.inr ?_) ?_
                · unfold sgn; split <;> decide
                · repeat walk_at "v"
                  refine ⟨rfl, _, u4, rfl, rfl, hu4, (fun j hj => by cases hj), (fun _ h => by cases h), fun _ s' hs' => ?_⟩
                  cases hs'
                  have hsg : sgn s = 1 ∨ sgn s = -1 := by unfold sgn; split <;> simp
                  rcases hsg with hsg | hsg <;> (rw [hsg]; omega)
        rintro ρ1 S1 ⟨p4, u4, rfl, rfl, hu4, hp41, hp42, hp43⟩
        repeat walk_at "v"
        refine ⟨isL_at own_at, ?_⟩
        repeat walk_at "v"
        refine draw_at (cS1 _ _ fs hu4) hr hu4 (by omega) (by omega) (by omega) fun i5 u5 h50 h51 hu5 => ?_
        repeat walk_at "v"
        refine w2 (app_to own_at hz) ?_
        rw [own_set]
        have hd : fs.map Fill.d ++ [.tup [.int p4, .int (1 + i5), optN o]] = (fs ++ [Fill.mk p4 (1 + i5) (o.map fun (k : Nat) => (k : Int))]).map Fill.d := by
          rw [List.map_append]
          cases o <;> rfl
        rw [hd]
        refine ⟨.inl rfl, hn, _, _, _, _, _, _, _, _, u5, _, rfl, rfl, hu5.mono (by omega), .snoc hfs ?_, by rw [List.length_append, List.length_singleton]; omega⟩
        refine ⟨by show (1 : Int) ≤ 1 + i5; omega, by show 1 + i5 ≤ 3; omega, by show 1 + i5 ≤ _; omega, fun n' hn' => ?_, fun h1 h2 => ?_, fun h1 s h2 => ?_⟩
        · cases o with
          | none => cases hn'
          | some j =>
            cases hn'
            exact ⟨j, rfl, ho j rfl, hp41 j rfl, by have := hroom2 j rfl; show 1 + i5 ≤ _; omega⟩
        · cases o with
          | none => exact hp42 rfl h2
          | some j => cases h1
        · cases o with
          | none => exact hp43 rfl s h2
          | some j => cases h1
      · repeat walk_at "v"
        exact ⟨.inl rfl, hn, _, _, _, _, _, _, _, _, u2, fs, rfl, rfl, fin0, hfs, by omega⟩
    · rintro n ρ' S' ⟨hn, x8, x9, x10, x11, x12, x13, x14, x15, u1, fs, rfl, rfl, hu1, hfs, hlen⟩
      (with_reducible refine sq_nx ?_)
      repeat walk_at "v"
      refine w1 (tupleO_sq own_sq) ?_
      exact ⟨_, rfl, fs, u1, rfl, rfl, hu1.mono (by omega), hfs, by omega⟩
  obtain ⟨d, S', e, fs, u', rfl, rfl, h1, h2, h3⟩ := main
  refine ⟨fs, u', ?_, h1, h2, h3⟩
  exact settled_to e (by rw [List.length_set]) (cS.set h1.closed) (by simp only [FS.closed]; exact closed_fills _ _)
end Gn
set_option Elab.async false
set_option linter.all false
set_option maxRecDepth 100000
set_option maxHeartbeats 8000000
namespace Gn
open PySem PySem.Spec PyProof.Rows L2 FS
local macro_rules | `(tactic| walk_at "w") => `(tactic| first | (with_reducible refine w_seq ?_) | (with_reducible refine w_set ?_) | (with_reducible refine w_ret ?_) | (with_reducible refine w_drop ?_) | (with_reducible refine w_nx ?_) | (with_reducible refine w_bin ?_) | (with_reducible refine w_test ?_) | (with_reducible refine w_andT ?_) | (with_reducible refine w_orT ?_) | (with_reducible refine w_notT ?_) | (with_reducible refine w_and ?_) | (with_reducible refine w_nil ?_) | (with_reducible refine w_cons ?_) | (with_reducible refine w_op ?_) | (with_reducible refine w_call0 ?_) | (with_reducible refine w_sl ?_) | (with_reducible refine w_nop ?_) | (with_reducible refine w_p ?_) | (with_reducible refine w_yes ?_) | (with_reducible refine w_c ?_) | (with_reducible refine w_un ?_) | (with_reducible refine w_par ?_) | (with_reducible refine w_asg ?_) | (with_reducible refine w_ifs ?_) | (with_reducible refine w_if ?_) | (with_reducible refine o_add ?_) | (with_reducible refine o_sub ?_) | (with_reducible refine o_lt ?_) | (with_reducible refine o_le ?_) | (with_reducible refine o_gt ?_) | (with_reducible refine o_ge ?_) | (with_reducible refine o_eqs ?_) | (with_reducible refine o_eqi ?_) | (with_reducible refine o_eqb ?_) | (with_reducible refine o_nes ?_) | (with_reducible refine o_nei ?_) | (with_reducible refine o_isnn ?_) | (with_reducible refine o_isni ?_) | (with_reducible refine o_isns ?_) | (with_reducible refine o_min ?_) | (with_reducible refine o_int ?_) | (with_reducible refine o_neg ?_) | (with_reducible refine o_lenT ?_) | (with_reducible refine o_lenL ?_) | (with_reducible refine sq_nx ?_) | (with_reducible refine sq_rt ?_) | ((with_reducible apply w_var); focus exact rfl) | (with_reducible refine w_tup ?_) | (with_reducible refine w_lst ?_) | (with_reducible refine w_new ?_) | ((with_reducible refine sz_and ?_ ?_); focus (simp only [List.length_cons, List.length_nil, sL] <;> omega)) | (with_reducible refine w_meth ?_) | (with_reducible refine w_lc ?_) | (with_reducible refine w_dput ?_) | (with_reducible refine w_dget ?_) | (with_reducible refine w_dget2 ?_) | ((with_reducible apply ex_rfl); focus exact rfl) | (with_reducible refine o_mod (by decide) ?_))
local macro_rules | `(tactic| walk_at "v") => `(tactic| first | (with_reducible refine w_seq ?_) | (with_reducible refine w_set ?_) | (with_reducible refine w_ret ?_) | (with_reducible refine w_drop ?_) | (with_reducible refine w_nx ?_) | (with_reducible refine w_bin ?_) | (with_reducible refine w_test ?_) | (with_reducible refine w_andT ?_) | (with_reducible refine w_orT ?_) | (with_reducible refine w_notT ?_) | (with_reducible refine w_and ?_) | (with_reducible refine w_nil ?_) | (with_reducible refine w_cons ?_) | (with_reducible refine w_op ?_) | (with_reducible refine w_call0 ?_) | (with_reducible refine w_sl ?_) | (with_reducible refine w_nop ?_) | (with_reducible refine w_p ?_) | (with_reducible refine w_yes ?_) | (with_reducible refine w_c ?_) | (with_reducible refine w_un ?_) | (with_reducible refine w_par ?_) | (with_reducible refine w_asg ?_) | (with_reducible refine o_add ?_) | (with_reducible refine o_sub ?_) | (with_reducible refine o_lt ?_) | (with_reducible refine o_le ?_) | (with_reducible refine o_gt ?_) | (with_reducible refine o_ge ?_) | (with_reducible refine o_eqs ?_) | (with_reducible refine o_eqi ?_) | (with_reducible refine o_eqb ?_) | (with_reducible refine o_nes ?_) | (with_reducible refine o_nei ?_) | (with_reducible refine o_isnn ?_) | (with_reducible refine o_isni ?_) | (with_reducible refine o_isns ?_) | (with_reducible refine o_min ?_) | (with_reducible refine o_int ?_) | (with_reducible refine o_neg ?_) | (with_reducible refine o_lenT ?_) | (with_reducible refine o_lenL ?_) | (with_reducible refine sq_nx ?_) | (with_reducible refine sq_rt ?_) | ((with_reducible apply w_var); focus exact rfl) | (with_reducible refine w_tup ?_) | (with_reducible refine w_lst ?_) | (with_reducible refine w_new ?_) | ((with_reducible refine sz_and ?_ ?_); focus (simp only [List.length_cons, List.length_nil, sL] <;> omega)) | (with_reducible refine w_meth ?_) | (with_reducible refine w_lc ?_) | (with_reducible refine w_dput ?_) | (with_reducible refine w_dget ?_) | (with_reducible refine w_dget2 ?_) | ((with_reducible apply ex_rfl); focus exact rfl) | (with_reducible refine o_mod (by decide) ?_))
local macro_rules | `(tactic| walk_at "u") => `(tactic| first | (with_reducible refine w_seq ?_) | (with_reducible refine w_set ?_) | (with_reducible refine w_ret ?_) | (with_reducible refine w_drop ?_) | (with_reducible refine w_nx ?_) | (with_reducible refine w_bin ?_) | (with_reducible refine w_test ?_) | (with_reducible refine w_andT ?_) | (with_reducible refine w_orT ?_) | (with_reducible refine w_notT ?_) | (with_reducible refine w_and ?_) | (with_reducible refine w_nil ?_) | (with_reducible refine w_cons ?_) | (with_reducible refine w_op ?_) | (with_reducible refine w_call0 ?_) | (with_reducible refine w_sl ?_) | (with_reducible refine w_nop ?_) | (with_reducible refine w_p ?_) | (with_reducible refine w_yes ?_) | (with_reducible refine w_c ?_) | (with_reducible refine w_un ?_) | (with_reducible refine w_par ?_) | (with_reducible refine w_asg ?_) | (with_reducible refine o_add ?_) | (with_reducible refine o_sub ?_) | (with_reducible refine o_lt ?_) | (with_reducible refine o_le ?_) | (with_reducible refine o_gt ?_) | (with_reducible refine o_ge ?_) | (with_reducible refine o_eqs ?_) | (with_reducible refine o_eqi ?_) | (with_reducible refine o_eqb ?_) | (with_reducible refine o_nes ?_) | (with_reducible refine o_nei ?_) | (with_reducible refine o_isnn ?_) | (with_reducible refine o_isni ?_) | (with_reducible refine o_isns ?_) | (with_reducible refine o_min ?_) | (with_reducible refine o_int ?_) | (with_reducible refine o_neg ?_) | (with_reducible refine o_lenT ?_) | (with_reducible refine o_lenL ?_) | (with_reducible refine sq_nx ?_) | (with_reducible refine sq_rt ?_) | ((with_reducible apply w_var); focus exact rfl) | (with_reducible refine w_tup ?_) | (with_reducible refine w_lst ?_) | (with_reducible refine w_new ?_) | ((with_reducible refine sz_and ?_ ?_); focus (simp only [List.length_cons, List.length_nil, sL] <;> omega)) | (with_reducible refine w_meth ?_)  | (with_reducible refine w_dput ?_) | (with_reducible refine w_dget ?_) | (with_reducible refine w_dget2 ?_) | ((with_reducible apply ex_rfl); focus exact rfl) | (with_reducible refine o_mod (by decide) ?_))

/-! ### picks -/
theorem pick_map {α β : Type} (g : α → β) (xs : List α) (lo hi st : Option Int) : pickD (xs.map g) lo hi st = (pickD xs lo hi st).map g := by
  unfold pickD
  rw [List.length_map, List.map_filterMap]
  refine congrArg (fun f => List.filterMap f _) (funext fun i => ?_)
  rw [List.getElem?_map]
theorem pick_mem {α : Type} {xs : List α} {lo hi st : Option Int} {x : α} (h : x ∈ pickD xs lo hi st) : x ∈ xs := by
  unfold pickD at h
  obtain ⟨i, _, e⟩ := List.mem_filterMap.mp h
  exact List.mem_of_getElem? e
theorem pick_len {α : Type} (xs : List α) {d : Int} (h : 0 ≤ d) : (pickD xs (some d) none (some 2)).length ≤ xs.length := by
  unfold pickD
  refine Nat.le_trans (List.length_filterMap_le _ _) ?_
  unfold sliceRange sliceBounds
  rw [List.length_map, List.length_range]
  simp only [Option.getD_some]
  split
  · split
    · split
      · omega
      · omega
    · omega
  · omega
theorem w_sl3 {f : G} {l u t : Gp} {ρ : Rho} {S : Sto} {Q : D → Sto → Prop} (h : W2 (f ρ S) fun x S1 => W2 (l ρ S1) fun lo S2 => W2 (u ρ S2) fun hi S3 => W2 (t ρ S3) fun st S4 => ∃ xs, lsOf S4 x = some xs ∧ st ≠ some 0 ∧ (pickD xs lo hi st).length ≤ sizeLine ∧ Q (.lst (pickD xs lo hi st)) S4) : W2 (cSl3 f l u t ρ S) Q := by
  obtain ⟨x, S1, e1, lo, S2, e2, hi, S3, e3, st, S4, e4, xs, e5, e6, e7, q⟩ := h
  refine ⟨_, S4, ?_, q⟩
  unfold cSl3
  rw [e1]
  dsimp only
  rw [e2]
  dsimp only
  rw [e3]
  dsimp only
  rw [e4]
  dsimp only
  rw [e5]
  dsimp only
  rw [if_pos ⟨e6, e7⟩]
/-- a list that is made while the store changes -/
theorem w_lcst {α β : Type} {src : Src} {t : Tg} {f : G} {vs : List Nat} {ρ : Rho} {S S1 : Sto} {Q : D → Sto → Prop} (enc : α → D) (dec : β → D) (xs : List α) (w : Option Nat) (I : List α → List β → Sto → Prop)
    (hsrc : src ρ S = some (xs.map enc, w, S1)) (h0 : I [] [] S1)
    (hs : ∀ pre x post acc S, xs = pre ++ x :: post → I pre acc S → ∃ ρ1, t (enc x) (wipeR ρ vs) = some ρ1 ∧ W2 (f ρ1 S) fun d S2 => ∃ b, d = dec b ∧ still (xs.map enc) w S2 = true ∧ I (pre ++ [x]) (acc ++ [b]) S2)
    (k : ∀ acc S', I xs acc S' → Q (.lst (acc.map dec)) S') : W2 (cLc src t cYes f vs ρ S) Q := by
  have key : ∀ (post pre : List α) (acc : List β) (S : Sto), xs = pre ++ post → I pre acc S → ∃ acc' S', lcB t cYes f (still (xs.map enc) w) (wipeR ρ vs) (post.map enc) S = some (acc'.map dec, S') ∧ I xs (acc ++ acc') S' := by
    intro post
    induction post with
    | nil =>
      intro pre acc S e h
      rw [List.append_nil] at e
      subst e
      exact ⟨[], S, rfl, by rw [List.append_nil]; exact h⟩
    | cons x post ih =>
      intro pre acc S e h
      obtain ⟨ρ1, e1, d, S2, e2, b, rfl, e3, h2⟩ := hs pre x post acc S e h
      obtain ⟨acc', S', e4, h4⟩ := ih (pre ++ [x]) (acc ++ [b]) S2 (by rw [e]; simp) h2
      refine ⟨b :: acc', S', ?_, by rw [List.append_cons]; exact h4⟩
      simp only [List.map_cons, lcB, e1, cYes, e2]
      rw [if_pos e3, e4]
  obtain ⟨acc, S', e, h⟩ := key xs [] [] S1 rfl h0
  rw [List.nil_append] at h
  refine ⟨_, S', ?_, k acc S' h⟩
  unfold cLc
  rw [hsrc]
  dsimp only
  rw [e]
/-! ### rows that are drawn -/
def goodP (rows : List Row) (p : Int) (k : Nat) : Bool := (decide (p ≤ priceOf (rowAt rows k)) == (sideOf (rowAt rows k) == ("buy" : Str))) || decide (priceOf (rowAt rows k) = p)
def goodL (rows : List Row) (p : Int) : List Nat := (openL rows rows.length 0).filter (goodP rows p)
structure CallBy (rows : List Row) (p : Int) (ps : List (Int × Int)) : Prop where
  names : ∃ d : Int, 0 ≤ d ∧ d < 2 ∧ ps.map (·.1) = (pickD (goodL rows p) (some d) none (some 2)).map fun (k : Nat) => (k : Int)
  sizes : ∀ q ∈ ps, ∃ k : Nat, q.1 = k ∧ k ∈ goodL rows p ∧ 1 ≤ q.2 ∧ q.2 ≤ restL rows k rows.length 0
inductive RowBy (rows : List Row) : Row → Prop
  | call {p : Int} {ps : List (Int × Int)} (hs : shutL rows rows.length = true) (h1 : 8 ≤ p) (h2 : p ≤ 12) (h : CallBy rows p ps) : RowBy rows (.call (some p) ps)
  | nocall (hs : shutL rows rows.length = true) : RowBy rows (.call none [])
  | cancel {k : Nat} (h : k ∈ openL rows rows.length 0) : RowBy rows (.cancel k)
  | prints {fs : List Fill} (hs : shutL rows rows.length = true → fs = []) (h : FillsBy rows 9 none 0 fs) (hl : fs.length ≤ 2) : RowBy rows (.prints fs)
  | order {m s : Str} {p z : Int} {fs : List Fill} (hm : m = "ann" ∨ m = "bob" ∨ m = "cy") (hs : s = "buy" ∨ s = "sell") (h1 : 8 ≤ p) (h2 : p ≤ 12) (h3 : 1 ≤ z) (h4 : z ≤ 6) (hc : shutL rows rows.length = true → fs = []) (h : FillsBy rows z (some s) p fs) (hl : fs.length ≤ 2) : RowBy rows (.order m s p z fs)
inductive RowsBy : List Row → Prop
  | nil : RowsBy []
  | shut : RowsBy [.closed]
  | snoc {rows : List Row} {x : Row} (h : RowsBy rows) (r : RowBy rows x) : RowsBy (rows ++ [x])
/-! ### their numbers are small -/
structure GF (f : Fill) : Prop where
  p1 : -100 ≤ f.p
  p2 : f.p ≤ 100
  z1 : 1 ≤ f.z
  z2 : f.z ≤ 3
  n : ∀ i, f.n = some i → 0 ≤ i ∧ i < 1000
def GR : Row → Prop
  | .order m s p z fs => Wd m ∧ Wd s ∧ 8 ≤ p ∧ p ≤ 12 ∧ 1 ≤ z ∧ z ≤ 6 ∧ fs.length ≤ 2 ∧ ∀ f ∈ fs, GF f
  | .prints fs => fs.length ≤ 2 ∧ ∀ f ∈ fs, GF f
  | .cancel n => 0 ≤ n ∧ n < 1000
  | .closed => True
  | .call p ps => (∀ i, p = some i → 8 ≤ i ∧ i ≤ 12) ∧ ps.length ≤ 40 ∧ ∀ q ∈ ps, 0 ≤ q.1 ∧ q.1 < 1000 ∧ 0 ≤ q.2 ∧ q.2 ≤ 6
theorem GF.ok {f : Fill} (h : GF f) : FOk f := ⟨sm_bd (by have := h.p1; omega) (by have := h.p2; omega), sm_bd (by have := h.z1; omega) (by have := h.z2; omega), fun i hi => sm_bd (by have := (h.n i hi).1; omega) (by have := (h.n i hi).2; omega)⟩
theorem GR.ok {r : Row} (h : GR r) : ROk r := by
  cases r with
  | order m s p z fs => exact .order h.1 h.2.1 (sm_bd (by have := h.2.2.1; omega) (by have := h.2.2.2.1; omega)) (sm_bd (by have := h.2.2.2.2.1; omega) (by have := h.2.2.2.2.2.1; omega)) (fun f hf => (h.2.2.2.2.2.2.2 f hf).ok) (by have := h.2.2.2.2.2.2.1; omega)
  | prints fs => exact .prints (fun f hf => (h.2 f hf).ok) (by have := h.1; omega)
  | cancel n => exact .cancel (sm_bd (by have := h.1; omega) (by have := h.2; omega))
  | closed => exact .closed
  | call p ps => exact .call (fun i hi => sm_bd (by have := (h.1 i hi).1; omega) (by have := (h.1 i hi).2; omega)) (fun q hq => by obtain ⟨a, b, c, d⟩ := h.2.2 q hq; exact ⟨sm_bd (by omega) (by omega), sm_bd (by omega) (by omega)⟩) h.2.1
theorem short_of {rows : List Row} (h : ∀ r ∈ rows, GR r) (hl : rows.length ≤ 900) : Short rows := by
  refine ⟨by omega, fun r hr => ?_⟩
  have := h r hr
  cases r with
  | order m s p z fs => exact ⟨by have := this.2.2.2.2.2.2.1; simp only [fillsOf]; omega, by simp [callPs]⟩
  | prints fs => exact ⟨by have := this.1; simp only [fillsOf]; omega, by simp [callPs]⟩
  | cancel n => exact ⟨by simp [fillsOf], by simp [callPs]⟩
  | closed => exact ⟨by simp [fillsOf], by simp [callPs]⟩
  | call p ps => exact ⟨by simp [fillsOf], by have := this.2.1; simp only [callPs]; omega⟩
theorem row_mem {rows : List Row} {k : Nat} (h : k < rows.length) : rowAt rows k ∈ rows := List.mem_of_getElem? (rowAt_get h)
theorem price_bd {rows : List Row} (h : ∀ r ∈ rows, GR r) {k : Nat} (hk : k < rows.length) (ho : isOrd (rowAt rows k) = true) : 8 ≤ priceOf (rowAt rows k) ∧ priceOf (rowAt rows k) ≤ 12 ∧ 1 ≤ sizeOf (rowAt rows k) ∧ sizeOf (rowAt rows k) ≤ 6 := by
  have := h _ (row_mem hk)
  generalize rowAt rows k = r at *
  cases r <;> first | exact ⟨this.2.2.1, this.2.2.2.1, this.2.2.2.2.1, this.2.2.2.2.2.1⟩ | cases ho
theorem fills_gf {rows : List Row} (h : ∀ r ∈ rows, GR r) (hl : rows.length ≤ 900) {left limit : Int} {side : Option Str} (h1 : side.isSome = true → 0 ≤ limit ∧ limit ≤ 50) {fs : List Fill} (hf : FillsBy rows left side limit fs) : ∀ f ∈ fs, GF f := by
  induction hf with
  | nil => intro f hf; cases hf
  | snoc h2 s ih =>
    rename_i fs f
    intro g hg
    rcases List.mem_append.mp hg with hg | hg
    · exact ih g hg
    · rw [List.mem_singleton] at hg
      subst hg
      have hp : -100 ≤ g.p ∧ g.p ≤ 100 := by
        cases hn : g.n with
        | some n =>
          obtain ⟨k, rfl, hc, e, _⟩ := s.own n hn
          have := price_bd h hc.lt.1 hc.lt.2
          omega
        | none =>
          cases side with
          | none => have := s.free hn rfl; omega
          | some sd =>
            have h3 := s.lim hn sd rfl
            have h4 := h1 rfl
            have hsg : sgn sd = 1 ∨ sgn sd = -1 := by unfold sgn; split <;> simp
            rcases hsg with hsg | hsg <;> (rw [hsg] at h3; omega)
      refine ⟨hp.1, hp.2, s.one, s.three, fun n hn => ?_⟩
      obtain ⟨k, rfl, hc, e, _⟩ := s.own n hn
      have := hc.lt.1
      omega
end Gn
set_option Elab.async false
set_option linter.all false
set_option maxRecDepth 100000
set_option maxHeartbeats 8000000
namespace Gn
open PySem PySem.Spec PyProof.Rows L2 FS
local macro_rules | `(tactic| walk_at "w") => `(tactic| first | (with_reducible refine w_seq ?_) | (with_reducible refine w_set ?_) | (with_reducible refine w_ret ?_) | (with_reducible refine w_drop ?_) | (with_reducible refine w_nx ?_) | (with_reducible refine w_bin ?_) | (with_reducible refine w_test ?_) | (with_reducible refine w_andT ?_) | (with_reducible refine w_orT ?_) | (with_reducible refine w_notT ?_) | (with_reducible refine w_and ?_) | (with_reducible refine w_nil ?_) | (with_reducible refine w_cons ?_) | (with_reducible refine w_op ?_) | (with_reducible refine w_call0 ?_) | (with_reducible refine w_sl ?_) | (with_reducible refine w_nop ?_) | (with_reducible refine w_p ?_) | (with_reducible refine w_yes ?_) | (with_reducible refine w_c ?_) | (with_reducible refine w_un ?_) | (with_reducible refine w_par ?_) | (with_reducible refine w_asg ?_) | (with_reducible refine w_ifs ?_) | (with_reducible refine w_if ?_) | (with_reducible refine o_add ?_) | (with_reducible refine o_sub ?_) | (with_reducible refine o_lt ?_) | (with_reducible refine o_le ?_) | (with_reducible refine o_gt ?_) | (with_reducible refine o_ge ?_) | (with_reducible refine o_eqs ?_) | (with_reducible refine o_eqi ?_) | (with_reducible refine o_eqb ?_) | (with_reducible refine o_nes ?_) | (with_reducible refine o_nei ?_) | (with_reducible refine o_isnn ?_) | (with_reducible refine o_isni ?_) | (with_reducible refine o_isns ?_) | (with_reducible refine o_min ?_) | (with_reducible refine o_int ?_) | (with_reducible refine o_neg ?_) | (with_reducible refine o_lenT ?_) | (with_reducible refine o_lenL ?_) | (with_reducible refine sq_nx ?_) | (with_reducible refine sq_rt ?_) | ((with_reducible apply w_var); focus exact rfl) | (with_reducible refine w_tup ?_) | (with_reducible refine w_lst ?_) | (with_reducible refine w_new ?_) | ((with_reducible refine sz_and ?_ ?_); focus (simp only [List.length_cons, List.length_nil, sL] <;> omega)) | (with_reducible refine w_meth ?_) | (with_reducible refine w_lc ?_) | (with_reducible refine w_dput ?_) | (with_reducible refine w_dget ?_) | (with_reducible refine w_dget2 ?_) | ((with_reducible apply ex_rfl); focus exact rfl) | (with_reducible refine o_mod (by decide) ?_))
local macro_rules | `(tactic| walk_at "v") => `(tactic| first | (with_reducible refine w_seq ?_) | (with_reducible refine w_set ?_) | (with_reducible refine w_ret ?_) | (with_reducible refine w_drop ?_) | (with_reducible refine w_nx ?_) | (with_reducible refine w_bin ?_) | (with_reducible refine w_test ?_) | (with_reducible refine w_andT ?_) | (with_reducible refine w_orT ?_) | (with_reducible refine w_notT ?_) | (with_reducible refine w_and ?_) | (with_reducible refine w_nil ?_) | (with_reducible refine w_cons ?_) | (with_reducible refine w_op ?_) | (with_reducible refine w_call0 ?_) | (with_reducible refine w_sl ?_) | (with_reducible refine w_nop ?_) | (with_reducible refine w_p ?_) | (with_reducible refine w_yes ?_) | (with_reducible refine w_c ?_) | (with_reducible refine w_un ?_) | (with_reducible refine w_par ?_) | (with_reducible refine w_asg ?_) | (with_reducible refine o_add ?_) | (with_reducible refine o_sub ?_) | (with_reducible refine o_lt ?_) | (with_reducible refine o_le ?_) | (with_reducible refine o_gt ?_) | (with_reducible refine o_ge ?_) | (with_reducible refine o_eqs ?_) | (with_reducible refine o_eqi ?_) | (with_reducible refine o_eqb ?_) | (with_reducible refine o_nes ?_) | (with_reducible refine o_nei ?_) | (with_reducible refine o_isnn ?_) | (with_reducible refine o_isni ?_) | (with_reducible refine o_isns ?_) | (with_reducible refine o_min ?_) | (with_reducible refine o_int ?_) | (with_reducible refine o_neg ?_) | (with_reducible refine o_lenT ?_) | (with_reducible refine o_lenL ?_) | (with_reducible refine sq_nx ?_) | (with_reducible refine sq_rt ?_) | ((with_reducible apply w_var); focus exact rfl) | (with_reducible refine w_tup ?_) | (with_reducible refine w_lst ?_) | (with_reducible refine w_new ?_) | ((with_reducible refine sz_and ?_ ?_); focus (simp only [List.length_cons, List.length_nil, sL] <;> omega)) | (with_reducible refine w_meth ?_) | (with_reducible refine w_lc ?_) | (with_reducible refine w_dput ?_) | (with_reducible refine w_dget ?_) | (with_reducible refine w_dget2 ?_) | ((with_reducible apply ex_rfl); focus exact rfl) | (with_reducible refine o_mod (by decide) ?_))
local macro_rules | `(tactic| walk_at "u") => `(tactic| first | (with_reducible refine w_seq ?_) | (with_reducible refine w_set ?_) | (with_reducible refine w_ret ?_) | (with_reducible refine w_drop ?_) | (with_reducible refine w_nx ?_) | (with_reducible refine w_bin ?_) | (with_reducible refine w_test ?_) | (with_reducible refine w_andT ?_) | (with_reducible refine w_orT ?_) | (with_reducible refine w_notT ?_) | (with_reducible refine w_and ?_) | (with_reducible refine w_nil ?_) | (with_reducible refine w_cons ?_) | (with_reducible refine w_op ?_) | (with_reducible refine w_call0 ?_) | (with_reducible refine w_sl ?_) | (with_reducible refine w_nop ?_) | (with_reducible refine w_p ?_) | (with_reducible refine w_yes ?_) | (with_reducible refine w_c ?_) | (with_reducible refine w_un ?_) | (with_reducible refine w_par ?_) | (with_reducible refine w_asg ?_) | (with_reducible refine o_add ?_) | (with_reducible refine o_sub ?_) | (with_reducible refine o_lt ?_) | (with_reducible refine o_le ?_) | (with_reducible refine o_gt ?_) | (with_reducible refine o_ge ?_) | (with_reducible refine o_eqs ?_) | (with_reducible refine o_eqi ?_) | (with_reducible refine o_eqb ?_) | (with_reducible refine o_nes ?_) | (with_reducible refine o_nei ?_) | (with_reducible refine o_isnn ?_) | (with_reducible refine o_isni ?_) | (with_reducible refine o_isns ?_) | (with_reducible refine o_min ?_) | (with_reducible refine o_int ?_) | (with_reducible refine o_neg ?_) | (with_reducible refine o_lenT ?_) | (with_reducible refine o_lenL ?_) | (with_reducible refine sq_nx ?_) | (with_reducible refine sq_rt ?_) | ((with_reducible apply w_var); focus exact rfl) | (with_reducible refine w_tup ?_) | (with_reducible refine w_lst ?_) | (with_reducible refine w_new ?_) | ((with_reducible refine sz_and ?_ ?_); focus (simp only [List.length_cons, List.length_nil, sL] <;> omega)) | (with_reducible refine w_meth ?_)  | (with_reducible refine w_dput ?_) | (with_reducible refine w_dget ?_) | (with_reducible refine w_dget2 ?_) | ((with_reducible apply ex_rfl); focus exact rfl) | (with_reducible refine o_mod (by decide) ?_))

theorem fills_gr {r : Row} (h : GR r) {f : Fill} (hf : f ∈ fillsOf r) : GF f := by
  cases r with
  | order m s p z fs => exact h.2.2.2.2.2.2.2 f hf
  | prints fs => exact h.2 f hf
  | _ => cases hf
theorem pairs_gr {r : Row} (h : GR r) {q : Int × Int} (hq : q ∈ callPs r) : 0 ≤ q.2 := by
  cases r with
  | call p ps => exact (h.2.2 q hq).2.2.1
  | _ => cases hq
theorem trades_pos {rows : List Row} (h : ∀ r ∈ rows, GR r) {t i : Nat} {q : Int × Int} (hq : q ∈ tradesL rows t i) : 0 ≤ q.2 := by
  obtain ⟨s, _, hs⟩ := List.mem_flatMap.mp hq
  unfold rowTr at hs
  split at hs
  · rename_i r e
    have hr := h r (List.mem_of_getElem? e)
    rcases List.mem_append.mp hs with hs | hs
    · obtain ⟨f, hf, hq⟩ := List.mem_flatMap.mp hs
      have hz := (fills_gr hr (List.mem_of_mem_take hf)).z1
      unfold fillTr at hq
      rcases List.mem_append.mp hq with hq | hq
      · split at hq
        · rw [List.mem_singleton] at hq; subst hq; show 0 ≤ f.z; omega
        · cases hq
      · split at hq
        · rw [List.mem_singleton] at hq; subst hq; show 0 ≤ f.z; omega
        · cases hq
    · split at hs
      · exact pairs_gr hr hs
      · cases hs
  · cases hs
theorem sum_pos : ∀ l : List Int, (∀ x ∈ l, 0 ≤ x) → 0 ≤ l.sum
  | [], _ => Int.le_refl _
  | x :: l, h => by
    rw [List.sum_cons]
    have := h x List.mem_cons_self
    have := sum_pos l fun y hy => h y (List.mem_cons_of_mem _ hy)
    omega
theorem tot_pos {rows : List Row} (h : ∀ r ∈ rows, GR r) (t i : Nat) (n : Int) : 0 ≤ tot (tradesL rows t i) n := by
  refine sum_pos _ fun x hx => ?_
  obtain ⟨q, hq, rfl⟩ := List.mem_map.mp hx
  exact trades_pos h (List.mem_filter.mp hq).1
theorem rest_bd {rows : List Row} (h : ∀ r ∈ rows, GR r) {t i k : Nat} (hk : k ∈ openL rows t i) : 0 < restL rows k t i ∧ restL rows k t i ≤ 6 := by
  obtain ⟨h1, h2, h3⟩ := open_lt hk
  have h4 := price_bd h h2 h3
  have h5 := tot_pos h t i k
  have h6 := (List.mem_filter.mp hk).2
  unfold openP at h6
  simp only [Bool.and_eq_true, decide_eq_true_eq] at h6
  unfold restL
  omega
theorem wd_lit (x : Str) (h : (x.cps.toList.all fun c => decide (c < 128)) = true) (hl : x.length ≤ 20) : Wd x := ⟨asc_lit h, hl⟩
theorem row_gr {rows : List Row} (h : ∀ r ∈ rows, GR r) (hl : rows.length ≤ 40) {x : Row} (hx : RowBy rows x) : GR x := by
  cases hx with
  | @call p ps hs h1 h2 hc =>
    refine ⟨(fun i hi => by cases hi; exact ⟨h1, h2⟩), ?_, fun q hq => ?_⟩
    · obtain ⟨d, h3, h4, e⟩ := hc.names
      have e2 := congrArg List.length e
      rw [List.length_map, List.length_map] at e2
      have := pick_len (goodL rows p) h3
      have := List.length_filter_le (goodP rows p) (openL rows rows.length 0)
      have := open_len rows rows.length 0
      unfold goodL at *
      omega
    · obtain ⟨k, e, hk, h3, h4⟩ := hc.sizes q hq
      have hk2 := (List.mem_filter.mp hk).1
      have := rest_bd h hk2
      have := (open_lt hk2).1
      exact ⟨by omega, by omega, by omega, by omega⟩
  | nocall hs => exact ⟨(fun i hi => by cases hi), by simp, fun q hq => by cases hq⟩
  | cancel hk =>
    have := (open_lt hk).1
    exact ⟨by omega, by omega⟩
  | prints hs hf hl2 => exact ⟨hl2, fills_gf h (by omega) (fun h => by cases h) hf⟩
  | order hm hs h1 h2 h3 h4 hc hf hl2 =>
    refine ⟨?_, ?_, h1, h2, h3, h4, hl2, fills_gf h (by omega) (fun _ => ⟨by omega, by omega⟩) hf⟩
    · rcases hm with rfl | rfl | rfl
      · exact wd_lit "ann" (by decide +kernel) (by decide +kernel)
      · exact wd_lit "bob" (by decide +kernel) (by decide +kernel)
      · exact wd_lit "cy" (by decide +kernel) (by decide +kernel)
    · rcases hs with rfl | rfl
      · exact wd_lit "buy" (by decide +kernel) (by decide +kernel)
      · exact wd_lit "sell" (by decide +kernel) (by decide +kernel)
theorem RowsBy.gr {rows : List Row} (h : RowsBy rows) (hl : rows.length ≤ 41) : ∀ r ∈ rows, GR r := by
  induction h with
  | nil => intro r hr; cases hr
  | shut => intro r hr; rw [List.mem_singleton] at hr; subst hr; exact trivial
  | snoc h x ih =>
    rw [List.length_append, List.length_singleton] at hl
    intro r hr
    rcases List.mem_append.mp hr with hr | hr
    · exact ih (by omega) r hr
    · rw [List.mem_singleton] at hr
      subst hr
      exact row_gr (ih (by omega)) (by omega) x
theorem pick_of {S : Sto} (L : List D) {n : Nat} (h : n < L.length) : ixO S (.lst L) (.int (n : Int)) = some L[n] := by
  rw [ixO_sq (xs := L) rfl, List.getElem?_eq_getElem h]
theorem w_seqLs {f : G} {ρ : Rho} {S S1 : Sto} {xs : List D} (h : W2 (f ρ S) fun d S' => d = .lst xs ∧ S' = S1) : sSeq f ρ S = some (xs, none, S1) := by
  obtain ⟨d, S', e, rfl, rfl⟩ := h
  unfold sSeq
  rw [e]
abbrev nr (r : Nat) (rd : D) (t : Int) (sh : Bool) (x4 x5 x6 x7 x8 x9 x10 x11 x12 x13 : Option D) : Rho := [some (.ref r), some rd, some (.int t), some (.bl sh), x4, x5, x6, x7, x8, x9, x10, x11, x12, x13]
theorem run_new_row {rows : List Row} {rd : D} {r c : Nat} {u : MO} {S : Sto} (cS : Clo S) (hu : S[r]? = some u) (hR : RdM u c) (hg : ∀ x ∈ rows, GR x) (hl : rows.length ≤ 40) (hrd : lmOf S rd = some (rows.map Row.d)) (hc : c + 60 ≤ 100000) :
    ∃ x u', F__law_new_row [.ref r, rd] S = some (x.d, S.set r u') ∧ RdM u' (c + 60) ∧ RowBy rows x := by
  obtain ⟨kvs, hkvs⟩ : ∃ kvs, S[r]? = some (.dct kvs) := by
    obtain ⟨a, b, d, e, rfl, _⟩ := id hR
    exact ⟨_, hu⟩
  have hr : r < S.length := (List.getElem?_eq_some_iff.mp hu).1
  have hrd1 : ∀ v, lmOf (S.set r v) rd = some (rows.map Row.d) := fun v => lmOf_set hkvs hrd
  have cS1 : ∀ (v : MO) (n : Nat), RdM v n → Clo (S.set r v) := fun v n h => cS.set h.closed
  have hshort := short_of hg (by omega)
  have hrows : ∀ (v : MO) k, k < rows.length → ixO (S.set r v) rd (.int (k : Int)) = some (rowAt rows k).d := fun v k hk => row_ix (sq_lm (hrd1 _)) hk
  have holt : ∀ j, j ∈ openL rows rows.length 0 → j < 1000 := fun j hj => by have := (open_lt hj).1; omega
  have hnf : ∀ (v : MO) (n : Nat) (left limit : Int) (side : Option Str), RdM v n → n ≤ c + 20 → ∃ fs u', F__law_new_fills [.ref r, rd, .int 2, .int left, sideD side, .int limit] (S.set r v) = some (.tup (fs.map Fill.d), S.set r u') ∧ RdM u' (n + 11) ∧ FillsBy rows left side limit fs ∧ fs.length ≤ 2 := by
    intro v n left limit side h hn
    obtain ⟨fs, u', e, h1, h2, h3⟩ := run_new_fills (S := S.set r v) (most := 2) (left := left) (limit := limit) (side := side) (cS1 _ _ h) (set_at hu) h hshort (by omega) (by decide) (hrd1 v) (by omega)
    rw [List.set_set] at e
    exact ⟨fs, u', e, h1, h2, h3⟩
  have main : W2 (runFn 2 14 b__law_new_row [.ref r, rd] S) fun d S' => ∃ x u', d = x.d ∧ S' = S.set r u' ∧ RdM u' (c + 60) ∧ RowBy rows x := by
    refine w_run rfl ?_
    unfold b__law_new_row
    refine w_mid (fun ρ1 S1 => ρ1 = nr r rd rows.length (shutL rows rows.length) none none none none none none none none none none ∧ S1 = S.set r u) ?_ ?_
    · repeat walk_at "v"
      refine w1 (lenO_sq (sq_lm hrd)) ?_
      repeat walk_at "v"
      refine w1 (lenO_sq (sq_lm hrd)) ?_
      repeat walk_at "v"
      rw [List.length_map]
      refine w2 (run_shut cS (sq_lm hrd) (fun x hx => (hg x hx).ok) (Nat.le_refl _) (by omega)) ?_
      repeat walk_at "v"
      exact ⟨rfl, rfl, (same_set hu).symm⟩
    rintro ρ1 S1 ⟨rfl, rfl⟩
    generalize hsh : shutL rows rows.length = sh
    refine w_mid (fun ρ1 S1 => ∃ (way : Int) (u1 : MO), ρ1 = nr r rd rows.length sh (some (.lst ((openL rows rows.length 0).map fun (k : Nat) => .int k))) (some (.int way)) none none none none none none none none ∧ S1 = S.set r u1 ∧ RdM u1 (c + 1)) ?_ ?_
    · repeat walk_at "v"
      refine w2 (run_open (i := 0) (cS1 _ _ hR) hshort (sq_lm (hrd1 _))) ?_
      repeat walk_at "v"
      refine draw_at0 (cS1 _ _ hR) hr hR (by omega) (by decide) (by decide) fun i1 u1 h10 h11 hu1 => ?_
      repeat walk_at "v"
      exact ⟨_, _, rfl, rfl, _, u1, rfl, rfl, hu1⟩
    rintro ρ1 S1 ⟨way, u1, rfl, rfl, hu1⟩
    refine w_midr (fun ρ1 S1 => ρ1 = nr r rd rows.length sh (some (.lst ((openL rows rows.length 0).map fun (k : Nat) => .int k))) (some (.int way)) none none none none none none none none ∧ S1 = S.set r u1) ?_ ?_
    · (with_reducible refine w_ifs ?_)
      repeat walk_at "v"
      refine ⟨fun h => ?_, fun h => ?_⟩
      · subst h
        repeat walk_at "v"
        refine ⟨fun h2 => ?_, fun h2 => ?_⟩
        · repeat walk_at "v"
          refine draw_at0 (cS1 _ _ hu1) hr hu1 (by omega) (by decide) (by decide) fun i2 u2 h20 h21 hu2 => ?_
          repeat walk_at "u"
          generalize hp : 8 + i2 = p
          refine w_lcsel (fun (k : Nat) => .int k) (goodP rows p) (fun (k : Nat) => .int k) (openL rows rows.length 0) none (w_src1 ?_) rfl (fun j hj => ?_) ?_
          · repeat walk_at "v"
            exact ⟨.inr rfl, rfl⟩
          · obtain ⟨hj0, hj1, hj2⟩ := open_lt hj
            refine ⟨_, rfl, ?_, fun h => ?_⟩
            · repeat walk_at "v"
              refine w1 (hrows _ j hj1) ?_
              repeat walk_at "v"
              refine w1 (price_at _ hj2) ?_
              repeat walk_at "v"
              refine w1 (hrows _ j hj1) ?_
              repeat walk_at "v"
              refine w1 (side_at _ hj2) ?_
              repeat walk_at "v"
              refine ⟨fun h => ?_, fun h => ?_⟩
              · refine ⟨?_, rfl⟩
                unfold goodP
                rw [h, Bool.true_or]
              · repeat walk_at "v"
                refine w1 (hrows _ j hj1) ?_
                repeat walk_at "v"
                refine w1 (price_at _ hj2) ?_
                repeat walk_at "v"
                refine ⟨?_, rfl⟩
                unfold goodP
                rw [h, Bool.false_or]
            · repeat walk_at "v"
              exact ⟨rfl, rfl⟩
          repeat walk_at "u"
          have hgood : ∀ j, j ∈ goodL rows p → j ∈ openL rows rows.length 0 := fun j hj => (List.mem_filter.mp hj).1
          have hgl : (goodL rows p).length ≤ 40 := Nat.le_trans (List.length_filter_le _ _) (Nat.le_trans (open_len _ _ _) hl)
          obtain ⟨i3, u3, e3, hu3, h30, h31⟩ := run_draw (cS1 _ _ hu2) (set_at hu) hu2 (by omega) (show (0 : Int) < 2 by decide) (by decide)
          rw [List.set_set] at e3
          have hpl := pick_len (goodL rows p) h30
          refine w_lcst (S1 := S.set r u3) (fun (k : Nat) => .int k) pD (pickD (goodL rows p) (some i3) none (some 2)) none (fun pre acc S1 => ∃ u4, S1 = S.set r u4 ∧ RdM u4 (c + 3 + pre.length) ∧ acc.map (·.1) = pre.map (fun (k : Nat) => (k : Int)) ∧ ∀ q ∈ acc, ∃ k : Nat, q.1 = k ∧ k ∈ goodL rows p ∧ 1 ≤ q.2 ∧ q.2 ≤ restL rows k rows.length 0) ?_ ⟨u3, rfl, hu3, rfl, fun q hq => by cases hq⟩ ?_ ?_
          · refine w_seqLs ?_
            refine w_sl3 ?_
            repeat walk_at "v"
            refine w2 e3 ?_
            repeat walk_at "v"
            refine ⟨by decide, ?_, ?_, rfl⟩
            · show (pickD ((goodL rows p).map fun (k : Nat) => D.int k) (some i3) none (some 2)).length ≤ sizeLine
              rw [pick_map, List.length_map, sL]; omega
            · show D.lst (pickD ((goodL rows p).map fun (k : Nat) => D.int k) (some i3) none (some 2)) = _
              rw [pick_map]
          · rintro pre j post acc S1 e ⟨u4, rfl, hu4, ha, hb⟩
            have hj : j ∈ goodL rows p := pick_mem (xs := goodL rows p) (by rw [e]; simp)
            have hj2 := hgood j hj
            obtain ⟨hj0, hj1, hj3⟩ := open_lt hj2
            have hrest := rest_bd hg hj2
            have hpre : pre.length + 1 ≤ 40 := by
              have := congrArg List.length e
              rw [List.length_append, List.length_cons] at this
              omega
            refine ⟨_, rfl, ?_⟩
            repeat walk_at "v"
            refine w2 (run_rest (i := 0) (cS1 _ _ hu4) hshort (sq_lm (hrd1 _)) hj1 hj3) ?_
            repeat walk_at "v"
            refine draw_at0 (cS1 _ _ hu4) hr hu4 (by omega) hrest.1 (by omega) fun i5 u5 h50 h51 hu5 => ?_
            repeat walk_at "v"
            refine ⟨(j, 1 + i5), rfl, rfl, u5, rfl, hu5.mono (by rw [List.length_append, List.length_singleton]; omega), by rw [List.map_append, List.map_append, ha]; rfl, fun q hq => ?_⟩
            rcases List.mem_append.mp hq with hq | hq
            · exact hb q hq
            · rw [List.mem_singleton] at hq
              subst hq
              exact ⟨j, rfl, hj, by show 1 ≤ 1 + i5; omega, by show 1 + i5 ≤ _; omega⟩
          · rintro acc S1 ⟨u4, rfl, hu4, ha, hb⟩
            have hcall : CallBy rows p acc := ⟨⟨i3, h30, h31, ha⟩, hb⟩
            have hal : acc.length ≤ 40 := by
              have := congrArg List.length ha
              rw [List.length_map, List.length_map] at this
              omega
            have hgr : GR (.call (some p) acc) := row_gr hg hl (.call hsh (by omega) (by omega) hcall)
            have hnice : NiceL (acc.map pD) 1 ((3849 + 2) * (acc.map pD).length) := NiceL.all fun d hd => by
              obtain ⟨q, hq, rfl⟩ := List.mem_map.mp hd
              obtain ⟨a1, a2, a3, a4⟩ := hgr.2.2 q hq
              exact Nice.tup ((NiceL.nil.cons (.int (sm_bd (by omega) (by omega)).wide)).cons (.int (sm_bd (by omega) (by omega)).wide))
            have hu5 : RdM u4 (c + 60) := hu4.mono (by omega)
            have fin1 : ∃ x u', (D.tup [.str "call", .int p, .tup (acc.map pD)]) = Row.d x ∧ S.set r u4 = S.set r u' ∧ RdM u' (c + 60) ∧ RowBy rows x := ⟨.call (some p) acc, u4, rfl, rfl, hu5, .call hsh (by omega) (by omega) hcall⟩
            repeat walk_at "v"
            (with_reducible refine w_if ?_)
            repeat walk_at "v"
            refine w1 (eqO_nil true hnice (by decide)) ?_
            repeat walk_at "v"
            refine ⟨fun h => ?_, fun h => ?_⟩
            · refine ⟨fun _ => ?_, fun h => by cases h⟩
              repeat walk_at "v"
              refine w1 (tupleO_sq rfl) ?_
              repeat walk_at "v"
              exact .inr ⟨_, rfl, _, rfl, fin1⟩
            · repeat walk_at "v"
              refine draw_at0 (cS1 _ _ hu4) hr hu4 (by omega) (by decide) (by decide) fun i6 u6 h60 h61 hu6 => ?_
              repeat walk_at "v"
              refine ⟨fun h6 => ?_, fun h6 => ?_⟩
              · repeat walk_at "v"
                refine w1 (tupleO_sq rfl) ?_
                repeat walk_at "v"
                exact .inr ⟨_, rfl, _, rfl, .call (some p) acc, u6, rfl, rfl, hu6.mono (by omega), .call hsh (by omega) (by omega) hcall⟩
              · repeat walk_at "v"
                exact .inr ⟨_, rfl, _, rfl, .call none [], u6, rfl, rfl, hu6.mono (by omega), .nocall hsh⟩
        · repeat walk_at "v"
          exact .inl ⟨rfl, rfl, rfl⟩
      · subst h
        refine ⟨fun h => (by cases h), fun _ => ?_⟩
        repeat walk_at "v"
        exact .inl ⟨rfl, rfl, rfl⟩
    rintro ρ1 S1 ⟨rfl, rfl⟩
    refine w_midr (fun ρ1 S1 => ρ1 = nr r rd rows.length sh (some (.lst ((openL rows rows.length 0).map fun (k : Nat) => .int k))) (some (.int way)) none none none none none none none none ∧ S1 = S.set r u1) ?_ ?_
    · (with_reducible refine w_ifs ?_)
      repeat walk_at "v"
      refine ⟨fun h => ?_, fun h => ?_⟩
      · repeat walk_at "v"
        refine w1 (some_nats _ true _ holt) ?_
        repeat walk_at "v"
        refine ⟨fun h2 => ?_, fun h2 => ?_⟩
        · have hLn : openL rows rows.length 0 ≠ [] := by intro e; rw [e] at h2; cases h2
          have hLp : 0 < (openL rows rows.length 0).length := List.length_pos_iff.mpr hLn
          have hLl := open_len rows rows.length 0
          repeat walk_at "v"
          rw [List.length_map]
          refine draw_at0 (cS1 _ _ hu1) hr hu1 (by omega) (by omega) (by omega) fun i3 u3 h30 h31 hu3 => ?_
          obtain ⟨j3, rfl⟩ : ∃ j3 : Nat, i3 = j3 := ⟨i3.toNat, by omega⟩
          have h32 : j3 < (openL rows rows.length 0).length := by omega
          refine w1 (a := .int ((openL rows rows.length 0)[j3] : Nat)) ?_ ?_
          · rw [ixO_sq (xs := (openL rows rows.length 0).map fun (k : Nat) => D.int k) rfl, List.getElem?_map, List.getElem?_eq_getElem h32]
            rfl
          · repeat walk_at "v"
            exact .inr ⟨_, rfl, _, rfl, .cancel ((openL rows rows.length 0)[j3] : Nat), u3, rfl, rfl, hu3.mono (by omega), .cancel (List.getElem_mem h32)⟩
        · repeat walk_at "v"
          exact .inl ⟨rfl, rfl, rfl⟩
      · refine ⟨fun h => (by cases h), fun _ => ?_⟩
        repeat walk_at "v"
        exact .inl ⟨rfl, rfl, rfl⟩
    rintro ρ1 S1 ⟨rfl, rfl⟩
    refine w_midr (fun ρ1 S1 => ρ1 = nr r rd rows.length sh (some (.lst ((openL rows rows.length 0).map fun (k : Nat) => .int k))) (some (.int way)) none none none none none none none none ∧ S1 = S.set r u1) ?_ ?_
    · (with_reducible refine w_ifs ?_)
      repeat walk_at "v"
      refine ⟨fun h => ?_, fun h => ?_⟩
      · repeat walk_at "v"
        refine w2_mid (fun d S1 => ∃ fs u', d = .tup (fs.map Fill.d) ∧ S1 = S.set r u' ∧ RdM u' (c + 60) ∧ (sh = true → fs = []) ∧ FillsBy rows 9 none 0 fs ∧ fs.length ≤ 2) ?_ ?_
        · (with_reducible refine w_if ?_)
          repeat walk_at "v"
          refine ⟨fun h => ?_, fun h => ?_⟩
          · repeat walk_at "v"
            exact ⟨[], u1, rfl, rfl, hu1.mono (by omega), (fun _ => rfl), .nil, Nat.zero_le _⟩
          · repeat walk_at "v"
            obtain ⟨fs, u', e, h1, h2, h3⟩ := hnf u1 (c + 1) 9 0 none hu1 (by omega)
            exact w2 e ⟨fs, u', rfl, rfl, h1.mono (by omega), (fun h4 => by rw [h] at h4; cases h4), h2, h3⟩
        · rintro d S1 ⟨fs, u', rfl, rfl, h1, h2, h3, h4⟩
          repeat walk_at "v"
          exact .inr ⟨_, rfl, _, rfl, .prints fs, u', rfl, rfl, h1, .prints (fun h5 => h2 (hsh.symm.trans h5)) h3 h4⟩
      · repeat walk_at "v"
        exact .inl ⟨rfl, rfl, rfl⟩
    rintro ρ1 S1 ⟨rfl, rfl⟩
    repeat walk_at "v"
    refine draw_at0 (cS1 _ _ hu1) hr hu1 (by omega) (by decide) (by decide) fun i2 u2 h20 h21 hu2 => ?_
    have hside : ∃ s : Str, (s = "buy" ∨ s = "sell") ∧ ixO (S.set r u2) (.lst [.str "buy", .str "sell"]) (.int i2) = some (.str s) := by
      have : i2 = 0 ∨ i2 = 1 := by omega
      rcases this with rfl | rfl
      · exact ⟨_, .inl rfl, pick_of (n := 0) _ (by decide)⟩
      · exact ⟨_, .inr rfl, pick_of (n := 1) _ (by decide)⟩
    obtain ⟨s, hs1, hs2⟩ := hside
    refine w1 hs2 ?_
    repeat walk_at "v"
    refine draw_at0 (cS1 _ _ hu2) hr hu2 (by omega) (by decide) (by decide) fun i3 u3 h30 h31 hu3 => ?_
    repeat walk_at "v"
    refine draw_at0 (cS1 _ _ hu3) hr hu3 (by omega) (by decide) (by decide) fun i4 u4 h40 h41 hu4 => ?_
    repeat walk_at "v"
    refine draw_at0 (cS1 _ _ hu4) hr hu4 (by omega) (by decide) (by decide) fun i5 u5 h50 h51 hu5 => ?_
    have hname : ∃ m : Str, (m = "ann" ∨ m = "bob" ∨ m = "cy") ∧ ixO (S.set r u5) (.lst [.str "ann", .str "bob", .str "cy"]) (.int i5) = some (.str m) := by
      have : i5 = 0 ∨ i5 = 1 ∨ i5 = 2 := by omega
      rcases this with rfl | rfl | rfl
      · exact ⟨_, .inl rfl, pick_of (n := 0) _ (by decide)⟩
      · exact ⟨_, .inr (.inl rfl), pick_of (n := 1) _ (by decide)⟩
      · exact ⟨_, .inr (.inr rfl), pick_of (n := 2) _ (by decide)⟩
    obtain ⟨m, hm1, hm2⟩ := hname
    refine w1 hm2 ?_
    repeat walk_at "v"
    refine ⟨_, _, rfl, ?_⟩
    repeat walk_at "v"
    refine w2_mid (fun d S1 => ∃ fs u', d = .tup (fs.map Fill.d) ∧ S1 = S.set r u' ∧ RdM u' (c + 60) ∧ (sh = true → fs = []) ∧ FillsBy rows (1 + i4) (some s) (8 + i3) fs ∧ fs.length ≤ 2) ?_ ?_
    · (with_reducible refine w_if ?_)
      repeat walk_at "v"
      refine ⟨fun h => ?_, fun h => ?_⟩
      · repeat walk_at "v"
        exact ⟨[], u5, rfl, rfl, hu5.mono (by omega), (fun _ => rfl), .nil, Nat.zero_le _⟩
      · repeat walk_at "v"
        obtain ⟨fs, u', e, h1, h2, h3⟩ := hnf u5 (c + 1 + 1 + 1 + 1 + 1) (1 + i4) (8 + i3) (some s) hu5 (by omega)
        exact w2 e ⟨fs, u', rfl, rfl, h1.mono (by omega), (fun h4 => by rw [h] at h4; cases h4), h2, h3⟩
    · rintro d S1 ⟨fs, u', rfl, rfl, h1, h2, h3, h4⟩
      repeat walk_at "v"
      exact ⟨.order m s (8 + i3) (1 + i4) fs, u', rfl, rfl, h1, .order hm1 hs1 (by omega) (by omega) (by omega) (by omega) (fun h5 => h2 (hsh.symm.trans h5)) h3 h4⟩
  obtain ⟨d, S', e, x, u', rfl, rfl, h1, h2⟩ := main
  refine ⟨x, u', ?_, h1, h2⟩
  exact settled_to (T := []) (by rw [List.append_nil]; exact e) (by rw [List.length_set]) (cS1 _ _ h1) (closed_row _ _)
end Gn
set_option Elab.async false
set_option linter.all false
set_option maxRecDepth 100000
set_option maxHeartbeats 8000000
namespace Gn
open PySem PySem.Spec PyProof.Rows L2 FS
local macro_rules | `(tactic| walk_at "w") => `(tactic| first | (with_reducible refine w_seq ?_) | (with_reducible refine w_set ?_) | (with_reducible refine w_ret ?_) | (with_reducible refine w_drop ?_) | (with_reducible refine w_nx ?_) | (with_reducible refine w_bin ?_) | (with_reducible refine w_test ?_) | (with_reducible refine w_andT ?_) | (with_reducible refine w_orT ?_) | (with_reducible refine w_notT ?_) | (with_reducible refine w_and ?_) | (with_reducible refine w_nil ?_) | (with_reducible refine w_cons ?_) | (with_reducible refine w_op ?_) | (with_reducible refine w_call0 ?_) | (with_reducible refine w_sl ?_) | (with_reducible refine w_nop ?_) | (with_reducible refine w_p ?_) | (with_reducible refine w_yes ?_) | (with_reducible refine w_c ?_) | (with_reducible refine w_un ?_) | (with_reducible refine w_par ?_) | (with_reducible refine w_asg ?_) | (with_reducible refine w_ifs ?_) | (with_reducible refine w_if ?_) | (with_reducible refine o_add ?_) | (with_reducible refine o_sub ?_) | (with_reducible refine o_lt ?_) | (with_reducible refine o_le ?_) | (with_reducible refine o_gt ?_) | (with_reducible refine o_ge ?_) | (with_reducible refine o_eqs ?_) | (with_reducible refine o_eqi ?_) | (with_reducible refine o_eqb ?_) | (with_reducible refine o_nes ?_) | (with_reducible refine o_nei ?_) | (with_reducible refine o_isnn ?_) | (with_reducible refine o_isni ?_) | (with_reducible refine o_isns ?_) | (with_reducible refine o_min ?_) | (with_reducible refine o_int ?_) | (with_reducible refine o_neg ?_) | (with_reducible refine o_lenT ?_) | (with_reducible refine o_lenL ?_) | (with_reducible refine sq_nx ?_) | (with_reducible refine sq_rt ?_) | ((with_reducible apply w_var); focus exact rfl) | (with_reducible refine w_tup ?_) | (with_reducible refine w_lst ?_) | (with_reducible refine w_new ?_) | ((with_reducible refine sz_and ?_ ?_); focus (simp only [List.length_cons, List.length_nil, sL] <;> omega)) | (with_reducible refine w_meth ?_) | (with_reducible refine w_lc ?_) | (with_reducible refine w_dput ?_) | (with_reducible refine w_dget ?_) | (with_reducible refine w_dget2 ?_) | ((with_reducible apply ex_rfl); focus exact rfl) | (with_reducible refine o_mod (by decide) ?_))
local macro_rules | `(tactic| walk_at "v") => `(tactic| first | (with_reducible refine w_seq ?_) | (with_reducible refine w_set ?_) | (with_reducible refine w_ret ?_) | (with_reducible refine w_drop ?_) | (with_reducible refine w_nx ?_) | (with_reducible refine w_bin ?_) | (with_reducible refine w_test ?_) | (with_reducible refine w_andT ?_) | (with_reducible refine w_orT ?_) | (with_reducible refine w_notT ?_) | (with_reducible refine w_and ?_) | (with_reducible refine w_nil ?_) | (with_reducible refine w_cons ?_) | (with_reducible refine w_op ?_) | (with_reducible refine w_call0 ?_) | (with_reducible refine w_sl ?_) | (with_reducible refine w_nop ?_) | (with_reducible refine w_p ?_) | (with_reducible refine w_yes ?_) | (with_reducible refine w_c ?_) | (with_reducible refine w_un ?_) | (with_reducible refine w_par ?_) | (with_reducible refine w_asg ?_) | (with_reducible refine o_add ?_) | (with_reducible refine o_sub ?_) | (with_reducible refine o_lt ?_) | (with_reducible refine o_le ?_) | (with_reducible refine o_gt ?_) | (with_reducible refine o_ge ?_) | (with_reducible refine o_eqs ?_) | (with_reducible refine o_eqi ?_) | (with_reducible refine o_eqb ?_) | (with_reducible refine o_nes ?_) | (with_reducible refine o_nei ?_) | (with_reducible refine o_isnn ?_) | (with_reducible refine o_isni ?_) | (with_reducible refine o_isns ?_) | (with_reducible refine o_min ?_) | (with_reducible refine o_int ?_) | (with_reducible refine o_neg ?_) | (with_reducible refine o_lenT ?_) | (with_reducible refine o_lenL ?_) | (with_reducible refine sq_nx ?_) | (with_reducible refine sq_rt ?_) | ((with_reducible apply w_var); focus exact rfl) | (with_reducible refine w_tup ?_) | (with_reducible refine w_lst ?_) | (with_reducible refine w_new ?_) | ((with_reducible refine sz_and ?_ ?_); focus (simp only [List.length_cons, List.length_nil, sL] <;> omega)) | (with_reducible refine w_meth ?_) | (with_reducible refine w_lc ?_) | (with_reducible refine w_dput ?_) | (with_reducible refine w_dget ?_) | (with_reducible refine w_dget2 ?_) | ((with_reducible apply ex_rfl); focus exact rfl) | (with_reducible refine o_mod (by decide) ?_))
local macro_rules | `(tactic| walk_at "u") => `(tactic| first | (with_reducible refine w_seq ?_) | (with_reducible refine w_set ?_) | (with_reducible refine w_ret ?_) | (with_reducible refine w_drop ?_) | (with_reducible refine w_nx ?_) | (with_reducible refine w_bin ?_) | (with_reducible refine w_test ?_) | (with_reducible refine w_andT ?_) | (with_reducible refine w_orT ?_) | (with_reducible refine w_notT ?_) | (with_reducible refine w_and ?_) | (with_reducible refine w_nil ?_) | (with_reducible refine w_cons ?_) | (with_reducible refine w_op ?_) | (with_reducible refine w_call0 ?_) | (with_reducible refine w_sl ?_) | (with_reducible refine w_nop ?_) | (with_reducible refine w_p ?_) | (with_reducible refine w_yes ?_) | (with_reducible refine w_c ?_) | (with_reducible refine w_un ?_) | (with_reducible refine w_par ?_) | (with_reducible refine w_asg ?_) | (with_reducible refine o_add ?_) | (with_reducible refine o_sub ?_) | (with_reducible refine o_lt ?_) | (with_reducible refine o_le ?_) | (with_reducible refine o_gt ?_) | (with_reducible refine o_ge ?_) | (with_reducible refine o_eqs ?_) | (with_reducible refine o_eqi ?_) | (with_reducible refine o_eqb ?_) | (with_reducible refine o_nes ?_) | (with_reducible refine o_nei ?_) | (with_reducible refine o_isnn ?_) | (with_reducible refine o_isni ?_) | (with_reducible refine o_isns ?_) | (with_reducible refine o_min ?_) | (with_reducible refine o_int ?_) | (with_reducible refine o_neg ?_) | (with_reducible refine o_lenT ?_) | (with_reducible refine o_lenL ?_) | (with_reducible refine sq_nx ?_) | (with_reducible refine sq_rt ?_) | ((with_reducible apply w_var); focus exact rfl) | (with_reducible refine w_tup ?_) | (with_reducible refine w_lst ?_) | (with_reducible refine w_new ?_) | ((with_reducible refine sz_and ?_ ?_); focus (simp only [List.length_cons, List.length_nil, sL] <;> omega)) | (with_reducible refine w_meth ?_)  | (with_reducible refine w_dput ?_) | (with_reducible refine w_dget ?_) | (with_reducible refine w_dget2 ?_) | ((with_reducible apply ex_rfl); focus exact rfl) | (with_reducible refine o_mod (by decide) ?_))

theorem run_random_rows {r c most : Nat} {u : MO} {S : Sto} (cS : Clo S) (hu : S[r]? = some u) (hR : RdM u c) (hm : most ≤ 39) (hc : c + 2 + 60 * most ≤ 100000) :
    ∃ rows u', F__law_random_rows [.ref r, .int most] S = some (.lst (rows.map Row.d), S.set r u') ∧ RdM u' (c + 2 + 60 * most) ∧ RowsBy rows ∧ rows.length ≤ most + 1 := by
  have hr : r < S.length := (List.getElem?_eq_some_iff.mp hu).1
  have cS1 : ∀ (v : MO) (n : Nat), RdM v n → Clo (S.set r v) := fun v n h => cS.set h.closed
  have cS2 : ∀ (v : MO) (n : Nat) (rows : List Row), RdM v n → Clo (S.set r v ++ [.lst (rows.map Row.d)]) := fun v n rows h => (cS1 v n h).app (closed_rows _ _)
  have main : W2 (runFn 2 4 b__law_random_rows [.ref r, .int most] S) fun d S' => ∃ rows u', d = .ref S.length ∧ S' = S.set r u' ++ [.lst (rows.map Row.d)] ∧ RdM u' (c + 2 + 60 * most) ∧ RowsBy rows ∧ rows.length ≤ most + 1 := by
    refine w_run rfl ?_
    unfold b__law_random_rows
    refine w_mid (fun ρ1 S1 => ∃ (rows : List Row) (u1 : MO), ρ1 = [some (.ref r), some (.int most), some (.ref S.length), none] ∧ S1 = S.set r u1 ++ [.lst (rows.map Row.d)] ∧ RdM u1 (c + 1) ∧ RowsBy rows ∧ rows.length ≤ 1) ?_ ?_
    · (with_reducible refine w_set ?_)
      (with_reducible refine w_if ?_)
      repeat walk_at "v"
      obtain ⟨i1, u1, e1, hu1, h10, h11⟩ := run_draw cS hu hR (by omega) (show (0 : Int) < 3 by decide) (by decide)
      refine w2 e1 ?_
      repeat walk_at "v"
      refine ⟨fun h => ?_, fun h => ?_⟩
      · repeat walk_at "v"
        exact ⟨rfl, [.closed], u1, by rw [List.length_set]; rfl, rfl, hu1, .shut, Nat.le_refl _⟩
      · repeat walk_at "v"
        exact ⟨rfl, [], u1, by rw [List.length_set]; rfl, rfl, hu1, .nil, Nat.zero_le _⟩
    rintro ρ1 S1 ⟨rows0, u1, rfl, rfl, hu1, hb0, hl0⟩
    (with_reducible refine w_seq ?_)
    refine w_forq (fun n S1 => n ≤ most ∧ ∃ u', S1 = S.set r u' ++ [.lst (rows0.map Row.d)] ∧ RdM u' (c + 2))
      (fun n k ρ S1 => n ≤ most ∧ ∃ x3 u' rows, ρ = [some (.ref r), some (.int most), some (.ref S.length), x3] ∧ S1 = S.set r u' ++ [.lst (rows.map Row.d)] ∧ RdM u' (c + 2 + 60 * k) ∧ RowsBy rows ∧ rows.length ≤ k + 1) ?_ ?_ ?_ ?_
    · repeat walk_at "v"
      refine draw_at (cS2 _ _ _ hu1) hr hu1 (by omega) (by omega) (by omega) fun i u' h0 h1 hu' => ?_
      repeat walk_at "v"
      exact ⟨i.toNat, by rw [Int.toNat_of_nonneg h0], by omega, by omega, u', rfl, hu'⟩
    · rintro n S1 ⟨hn, u', rfl, hu'⟩
      exact ⟨hn, _, u', rows0, rfl, rfl, hu', hb0, by omega⟩
    · rintro n k hkn ρ S1 ⟨hn, x3, u2, rows, rfl, rfl, hu2, hb, hl⟩
      refine ⟨_, rfl, ?_⟩
      repeat walk_at "v"
      refine ⟨isL_at own_at, ?_⟩
      repeat walk_at "v"
      obtain ⟨x, u3, e3, hu3, hx⟩ := run_new_row (S := S.set r u2 ++ [.lst (rows.map Row.d)]) (rd := .ref S.length) (cS2 _ _ _ hu2) (get_app hr u2) hu2 (hb.gr (by omega)) (by omega) (by unfold lmOf; simp only [own_at]) (by omega)
      rw [set_app hr] at e3
      refine w2 e3 ?_
      repeat walk_at "v"
      refine w2 (app_to own_at ?_) ?_
      · rw [List.length_map, sL]; omega
      · rw [own_set, show rows.map Row.d ++ [x.d] = (rows ++ [x]).map Row.d by rw [List.map_append]; rfl]
        exact ⟨.inl rfl, hn, _, u3, rows ++ [x], rfl, rfl, hu3.mono (by omega), .snoc hb hx, by rw [List.length_append, List.length_singleton]; omega⟩
    · rintro n ρ' S' ⟨hn, x3, u2, rows, rfl, rfl, hu2, hb, hl⟩
      (with_reducible refine sq_nx ?_)
      repeat walk_at "v"
      exact ⟨rows, u2, rfl, rfl, hu2.mono (by omega), hb, by omega⟩
  obtain ⟨d, S', e, rows, u', rfl, rfl, h1, h2, h3⟩ := main
  refine ⟨rows, u', ?_, h1, h2, h3⟩
  exact settled_lst e (by rw [List.length_set]) (cS1 _ _ h1) (Nat.le_refl _) own_at (closed_rows _ _)
structure Rec where
  rule : Str
  rows : List Row
def Rec.d (g : Rec) : D := .tup [.str g.rule, .tup (g.rows.map Row.d)]
def Rule (s : Str) : Prop := s = "time" ∨ s = "late" ∨ s = "price"
theorem run_random_record {r c most : Nat} {u : MO} {S : Sto} (cS : Clo S) (hu : S[r]? = some u) (hR : RdM u c) (hm : most ≤ 39) (hc : c + 3 + 60 * most ≤ 100000) :
    ∃ g u', F__law_random_record [.ref r, .int most] S = some (Rec.d g, S.set r u') ∧ RdM u' (c + 3 + 60 * most) ∧ RowsBy g.rows ∧ g.rows.length ≤ most + 1 ∧ Rule g.rule := by
  have cS1 : ∀ (v : MO) (n : Nat), RdM v n → Clo (S.set r v) := fun v n h => cS.set h.closed
  have main : W2 (runFn 2 2 b__law_random_record [.ref r, .int most] S) fun d S' => ∃ g u', d = Rec.d g ∧ S' = S.set r u' ∧ RdM u' (c + 3 + 60 * most) ∧ RowsBy g.rows ∧ g.rows.length ≤ most + 1 ∧ Rule g.rule := by
    refine w_run rfl ?_
    unfold b__law_random_record
    repeat walk_at "v"
    obtain ⟨i1, u1, e1, hu1, h10, h11⟩ := run_draw cS hu hR (by omega) (show (0 : Int) < 3 by decide) (by decide)
    refine w2 e1 ?_
    have hname : ∃ m : Str, Rule m ∧ ixO (S.set r u1) (.lst [.str "time", .str "late", .str "price"]) (.int i1) = some (.str m) := by
      have : i1 = 0 ∨ i1 = 1 ∨ i1 = 2 := by omega
      rcases this with rfl | rfl | rfl
      · exact ⟨_, .inl rfl, pick_of (n := 0) _ (by decide)⟩
      · exact ⟨_, .inr (.inl rfl), pick_of (n := 1) _ (by decide)⟩
      · exact ⟨_, .inr (.inr rfl), pick_of (n := 2) _ (by decide)⟩
    obtain ⟨m, hm1, hm2⟩ := hname
    repeat walk_at "v"
    refine w1 hm2 ?_
    repeat walk_at "v"
    obtain ⟨rows, u2, e2, hu2, h20, h21⟩ := run_random_rows (S := S.set r u1) (cS1 _ _ hu1) (set_at hu) hu1 hm (by omega)
    rw [List.set_set] at e2
    refine w2 e2 ?_
    repeat walk_at "v"
    refine w1 (tupleO_sq rfl) ?_
    repeat walk_at "v"
    exact ⟨⟨m, rows⟩, u2, rfl, rfl, hu2.mono (by omega), h20, h21, hm1⟩
  obtain ⟨d, S', e, g, u', rfl, rfl, h1, h2, h3, h4⟩ := main
  refine ⟨g, u', ?_, h1, h2, h3, h4⟩
  exact settled_to (T := []) (by rw [List.append_nil]; exact e) (by rw [List.length_set]) (cS1 _ _ h1) (by simp only [Rec.d, FS.closed, closedL, closed_rows, Bool.and_self])
theorem run_reader {S : Sto} (ns : List Int) : ∃ u, F__law_reader [.scr (ns.map .int)] S = some (.ref S.length, S ++ [u]) ∧ RdM u 0 := by
  have h : W2 (runFn 1 1 b__law_reader [.scr (ns.map .int)] S) fun d S' => ∃ u, d = .ref S.length ∧ S' = S ++ [u] ∧ RdM u 0 := by
    refine w_run rfl ?_
    unfold b__law_reader
    (with_reducible refine w_ret ?_)
    have e1 : cPairs [((cC (.str "cells")), (cOp listO (cCons (cSl (cVar 0) cNoP (cP (cC (.int 63)))) cNil))), ((cC (.str "spot")), (cC (.int 0))), ((cC (.str "rest")), (cC (.int 0))), ((cC (.str "calls")), (cC (.int 0)))] (List.map some [D.scr (ns.map .int)] ++ List.replicate (1 - 1) none) S = some ([(.inr "cells", .lst ((ns.take 63).map .int)), (.inr "spot", .int 0), (.inr "rest", .int 0), (.inr "calls", .int 0)], S) := by
      have e2 : (FS.cutD (ns.map D.int) none (some ((63 : Nat) : Int))) = (ns.take 63).map .int := by rw [cut_to, List.map_take]
      rw [← e2]
      rfl
    refine w2 (a := .ref S.length) (S := S ++ [.dct (rk (.lst ((ns.take 63).map .int)) 0 0 0)]) ?_ ⟨_, rfl, _, rfl, rfl, ns.take 63, 0, 0, 0, rfl, Int.le_refl _, Nat.le_refl _⟩
    unfold cDisp
    rw [e1]
    dsimp only
    rw [if_pos (by simp only [List.length_cons, List.length_nil]; decide)]
    simp [mergeD, putD, rk, ks_cells_spot, ks_cells_rest, ks_cells_calls, ks_spot_cells, ks_spot_rest, ks_spot_calls, ks_rest_cells, ks_rest_spot, ks_rest_calls, ks_calls_cells, ks_calls_spot, ks_calls_rest]
  obtain ⟨d, S', e, u, rfl, rfl, h⟩ := h
  exact ⟨u, e, h⟩
end Gn
set_option Elab.async false
set_option linter.all false
set_option maxRecDepth 100000
set_option maxHeartbeats 4000000
namespace K8
open PySem PySem.Spec PyProof.Rows L2 FS
def topS (i : Nat) : Stmt := PySem.Challenge.pw_fairshown_k08_texts_written.main.body.getD i (.Pass ⟨0, 0, 0, 0⟩)
/-! ### order_word -/
abbrev s_order_word : Stmt := topS 2
abbrev N_order_word : List Str := ["n"]
theorem sc_order_word : FnScope N_order_word ["n"] (defScope s_order_word) := ⟨rfl, rfl, rfl, by decide +kernel, rfl, by decide +kernel, by decide +kernel⟩
def b_order_word : B := (cRet (cIf (cTest (cBin (isO false) (cVar 0) (cC .non))) (cC (.str "-")) (cOp strOne (cCons (cVar 0) cNil))))
def F_order_word : Fn := settled (runFn 1 1 b_order_word)

/-! ### fill_words -/
abbrev s_fill_words : Stmt := topS 3
abbrev N_fill_words : List Str := ["fills", "price", "size", "n"]
theorem sc_fill_words : FnScope N_fill_words ["fills"] (defScope s_fill_words) := ⟨rfl, rfl, rfl, by decide +kernel, rfl, by decide +kernel, by decide +kernel⟩
def b_fill_words : B := (cRet (cLc (sSeq (cVar 0)) (gTp ((gNm 1) :: ((gNm 2) :: ((gNm 3) :: [])))) cYes (cJoined ((cFmt (cVar 1)) :: ((cC (.str "*")) :: ((cFmt (cVar 2)) :: ((cC (.str "@")) :: ((cFmt (cCall F_order_word [] (cCons (cVar 3) cNil))) :: [])))))) [1, 2, 3]))
def F_fill_words : Fn := settled (runFn 1 4 b_fill_words)

/-! ### row_words -/
abbrev s_row_words : Stmt := topS 4
abbrev N_row_words : List Str := ["row", "word", "member", "side", "price", "size", "fills", "n"]
theorem sc_row_words : FnScope N_row_words ["row"] (defScope s_row_words) := ⟨rfl, rfl, rfl, by decide +kernel, rfl, by decide +kernel, by decide +kernel⟩
def b_row_words : B := (cMatch (cBin ixO (cVar 0) (cC (.int 0))) (fun d => cCase d "order" (cSeq (cAsg (cVar 0) (gTp ((gNm 1) :: ((gNm 2) :: ((gNm 3) :: ((gNm 4) :: ((gNm 5) :: ((gNm 6) :: []))))))))
    (cRet (cLst (cCons (cVar 1) (cCons (cVar 2) (cCons (cVar 3) (cCons (cOp strOne (cCons (cVar 4) cNil)) (cCons (cOp strOne (cCons (cVar 5) cNil)) (cStar (cCall F_fill_words [] (cCons (cVar 6) cNil)) cNil))))))))) ((fun d => cCase d "prints" (cRet (cLst (cCons (cBin ixO (cVar 0) (cC (.int 0))) (cStar (cCall F_fill_words [] (cCons (cBin ixO (cVar 0) (cC (.int 1))) cNil)) cNil)))) ((fun d => cCase d "call" (cRet (cLst (cCons (cBin ixO (cVar 0) (cC (.int 0))) (cCons (cCall F_order_word [] (cCons (cBin ixO (cVar 0) (cC (.int 1))) cNil)) (cStar (cLc (sSeq (cBin ixO (cVar 0) (cC (.int 2)))) (gTp ((gNm 7) :: ((gNm 5) :: []))) cYes (cJoined ((cFmt (cVar 5)) :: ((cC (.str "@")) :: ((cFmt (cVar 7)) :: [])))) [7, 5]) cNil))))) ((fun _ => (cRet (cLst (cCons (cBin ixO (cVar 0) (cC (.int 0))) (cStar (cLc (sSeq (cSl (cVar 0) (cP (cC (.int 1))) cNoP)) (gNm 7) cYes (cOp strOne (cCons (cVar 7) cNil)) [7]) cNil))))) d)) d)) d)))
def F_row_words : Fn := settled (runFn 1 8 b_row_words)

/-! ### row_text -/
abbrev s_row_text : Stmt := topS 5
abbrev N_row_text : List Str := ["row"]
theorem sc_row_text : FnScope N_row_text ["row"] (defScope s_row_text) := ⟨rfl, rfl, rfl, by decide +kernel, rfl, by decide +kernel, by decide +kernel⟩
def b_row_text : B := (cRet (cMeth isS joinO (cC (.str " ")) (cCons (cCall F_row_words [] (cCons (cVar 0) cNil)) cNil)))
def F_row_text : Fn := settled (runFn 1 1 b_row_text)

/-! ### record_text -/
abbrev s_record_text : Stmt := topS 6
abbrev N_record_text : List Str := ["record", "rule", "rows", "row"]
theorem sc_record_text : FnScope N_record_text ["record"] (defScope s_record_text) := ⟨rfl, rfl, rfl, by decide +kernel, rfl, by decide +kernel, by decide +kernel⟩
def b_record_text : B := (cSeq (cAsg (cVar 0) (gTp ((gNm 1) :: ((gNm 2) :: []))))
    (cRet (cMeth isS joinO (cC (.str "\n")) (cCons (cLst (cCons (cJoined ((cC (.str "record ")) :: ((cFmt (cVar 1)) :: []))) (cStar (cLc (sSeq (cVar 2)) (gNm 3) cYes (cCall F_row_text [] (cCons (cVar 3) cNil)) [3]) cNil))) cNil))))
def F_record_text : Fn := settled (runFn 1 4 b_record_text)

/-! ### _law_reader -/
abbrev s__law_reader : Stmt := topS 8
abbrev N__law_reader : List Str := ["_law_script"]
theorem sc__law_reader : FnScope N__law_reader ["_law_script"] (defScope s__law_reader) := ⟨rfl, rfl, rfl, by decide +kernel, rfl, by decide +kernel, by decide +kernel⟩
abbrev b__law_reader : B := Gn.b__law_reader
abbrev F__law_reader : Fn := Gn.F__law_reader

/-! ### _law_draw -/
abbrev s__law_draw : Stmt := topS 9
abbrev N__law_draw : List Str := ["_law_reader_here", "_law_many", "_law_calls", "_law_figure", "_law_spot", "_law_cells", "_law_cell", "_law_once"]
theorem sc__law_draw : FnScope N__law_draw ["_law_reader_here", "_law_many"] (defScope s__law_draw) := ⟨rfl, rfl, rfl, by decide +kernel, rfl, by decide +kernel, by decide +kernel⟩
abbrev b__law_draw : B := Gn.b__law_draw
abbrev F__law_draw : Fn := Gn.F__law_draw

/-! ### _law_fills -/
abbrev s__law_fills : Stmt := topS 10
abbrev N__law_fills : List Str := ["_law_row"]
theorem sc__law_fills : FnScope N__law_fills ["_law_row"] (defScope s__law_fills) := ⟨rfl, rfl, rfl, by decide +kernel, rfl, by decide +kernel, by decide +kernel⟩
abbrev b__law_fills : B := Gn.b__law_fills
abbrev F__law_fills : Fn := Gn.F__law_fills

/-! ### _law_trades -/
abbrev s__law_trades : Stmt := topS 11
abbrev N__law_trades : List Str := ["_law_rows", "_law_t", "_law_i", "_law_found", "_law_s", "_law_row", "_law_price", "_law_size", "_law_n"]
theorem sc__law_trades : FnScope N__law_trades ["_law_rows", "_law_t", "_law_i"] (defScope s__law_trades) := ⟨rfl, rfl, rfl, by decide +kernel, rfl, by decide +kernel, by decide +kernel⟩
abbrev b__law_trades : B := Gn.b__law_trades
abbrev F__law_trades : Fn := Gn.F__law_trades

/-! ### _law_rest -/
abbrev s__law_rest : Stmt := topS 12
abbrev N__law_rest : List Str := ["_law_rows", "_law_n", "_law_t", "_law_i", "_law_m", "_law_size"]
theorem sc__law_rest : FnScope N__law_rest ["_law_rows", "_law_n", "_law_t", "_law_i"] (defScope s__law_rest) := ⟨rfl, rfl, rfl, by decide +kernel, rfl, by decide +kernel, by decide +kernel⟩
abbrev b__law_rest : B := Gn.b__law_rest
abbrev F__law_rest : Fn := Gn.F__law_rest

/-! ### _law_orders -/
abbrev s__law_orders : Stmt := topS 13
abbrev N__law_orders : List Str := ["_law_rows", "_law_k"]
theorem sc__law_orders : FnScope N__law_orders ["_law_rows"] (defScope s__law_orders) := ⟨rfl, rfl, rfl, by decide +kernel, rfl, by decide +kernel, by decide +kernel⟩
abbrev b__law_orders : B := Gn.b__law_orders
abbrev F__law_orders : Fn := Gn.F__law_orders

/-! ### _law_open -/
abbrev s__law_open : Stmt := topS 14
abbrev N__law_open : List Str := ["_law_rows", "_law_t", "_law_i", "_law_gone", "_law_traded_now", "_law_n", "_law_size", "_law_found", "_law_row"]
theorem sc__law_open : FnScope N__law_open ["_law_rows", "_law_t", "_law_i"] (defScope s__law_open) := ⟨rfl, rfl, rfl, by decide +kernel, rfl, by decide +kernel, by decide +kernel⟩
abbrev b__law_open : B := Gn.b__law_open
abbrev F__law_open : Fn := Gn.F__law_open

/-! ### _law_is_shut -/
abbrev s__law_is_shut : Stmt := topS 15
abbrev N__law_is_shut : List Str := ["_law_rows", "_law_t", "_law_row"]
theorem sc__law_is_shut : FnScope N__law_is_shut ["_law_rows", "_law_t"] (defScope s__law_is_shut) := ⟨rfl, rfl, rfl, by decide +kernel, rfl, by decide +kernel, by decide +kernel⟩
abbrev b__law_is_shut : B := Gn.b__law_is_shut
abbrev F__law_is_shut : Fn := Gn.F__law_is_shut

/-! ### _law_new_fills -/
abbrev s__law_new_fills : Stmt := topS 16
abbrev N__law_new_fills : List Str := ["_law_reader_here", "_law_rows", "_law_most", "_law_left", "_law_side", "_law_limit", "_law_found", "_law_t", "_law_k", "_law_late", "_law_there", "_law_used", "_law_n", "_law_room", "_law_price", "_law_one"]
theorem sc__law_new_fills : FnScope N__law_new_fills ["_law_reader_here", "_law_rows", "_law_most", "_law_left", "_law_side", "_law_limit"] (defScope s__law_new_fills) := ⟨rfl, rfl, rfl, by decide +kernel, rfl, by decide +kernel, by decide +kernel⟩
abbrev b__law_new_fills : B := Gn.b__law_new_fills
abbrev F__law_new_fills : Fn := Gn.F__law_new_fills

/-! ### _law_new_row -/
abbrev s__law_new_row : Stmt := topS 17
abbrev N__law_new_row : List Str := ["_law_reader_here", "_law_rows", "_law_t", "_law_shut_now", "_law_there", "_law_way", "_law_price", "_law_good", "_law_pairs", "_law_side", "_law_size", "_law_member", "_law_taken", "_law_n"]
theorem sc__law_new_row : FnScope N__law_new_row ["_law_reader_here", "_law_rows"] (defScope s__law_new_row) := ⟨rfl, rfl, rfl, by decide +kernel, rfl, by decide +kernel, by decide +kernel⟩
abbrev b__law_new_row : B := Gn.b__law_new_row
abbrev F__law_new_row : Fn := Gn.F__law_new_row

/-! ### _law_random_rows -/
abbrev s__law_random_rows : Stmt := topS 18
abbrev N__law_random_rows : List Str := ["_law_reader_here", "_law_most", "_law_rows", "_law_k"]
theorem sc__law_random_rows : FnScope N__law_random_rows ["_law_reader_here", "_law_most"] (defScope s__law_random_rows) := ⟨rfl, rfl, rfl, by decide +kernel, rfl, by decide +kernel, by decide +kernel⟩
abbrev b__law_random_rows : B := Gn.b__law_random_rows
abbrev F__law_random_rows : Fn := Gn.F__law_random_rows

/-! ### _law_random_record -/
abbrev s__law_random_record : Stmt := topS 19
abbrev N__law_random_record : List Str := ["_law_reader_here", "_law_most"]
theorem sc__law_random_record : FnScope N__law_random_record ["_law_reader_here", "_law_most"] (defScope s__law_random_record) := ⟨rfl, rfl, rfl, by decide +kernel, rfl, by decide +kernel, by decide +kernel⟩
abbrev b__law_random_record : B := Gn.b__law_random_record
abbrev F__law_random_record : Fn := Gn.F__law_random_record

/-! ### _law_fixed_records -/
abbrev s__law_fixed_records : Stmt := topS 20
abbrev N__law_fixed_records : List Str := ["_law_first", "_law_shut", "_law_late"]
theorem sc__law_fixed_records : FnScope N__law_fixed_records [] (defScope s__law_fixed_records) := ⟨rfl, rfl, rfl, by decide +kernel, rfl, by decide +kernel, by decide +kernel⟩
abbrev b__law_fixed_records : B := Gn.b__law_fixed_records
abbrev F__law_fixed_records : Fn := Gn.F__law_fixed_records

/-! ### _law_fill_word -/
abbrev s__law_fill_word : Stmt := topS 21
abbrev N__law_fill_word : List Str := ["_law_fill"]
theorem sc__law_fill_word : FnScope N__law_fill_word ["_law_fill"] (defScope s__law_fill_word) := ⟨rfl, rfl, rfl, by decide +kernel, rfl, by decide +kernel, by decide +kernel⟩
def b__law_fill_word : B := (cRet (cBin addO (cBin addO (cBin addO (cBin addO (cOp strOne (cCons (cBin ixO (cVar 0) (cC (.int 0))) cNil)) (cC (.str "*"))) (cOp strOne (cCons (cBin ixO (cVar 0) (cC (.int 1))) cNil))) (cC (.str "@"))) (cIf (cTest (cBin (isO false) (cBin ixO (cVar 0) (cC (.int 2))) (cC .non))) (cC (.str "-")) (cOp strOne (cCons (cBin ixO (cVar 0) (cC (.int 2))) cNil)))))
def F__law_fill_word : Fn := settled (runFn 1 1 b__law_fill_word)

/-! ### _law_row_words -/
abbrev s__law_row_words : Stmt := topS 22
abbrev N__law_row_words : List Str := ["_law_row", "_law_fills_here", "_law_price", "_law_fill", "_law_n", "_law_size"]
theorem sc__law_row_words : FnScope N__law_row_words ["_law_row"] (defScope s__law_row_words) := ⟨rfl, rfl, rfl, by decide +kernel, rfl, by decide +kernel, by decide +kernel⟩
def b__law_row_words : B := (cSeq (cSet 1 (cLc (sSeq (cCall F__law_fills [] (cCons (cVar 0) cNil))) (gNm 3) cYes (cCall F__law_fill_word [] (cCons (cVar 3) cNil)) [3]))
    (cSeq (cIfS (cTest (cBin (eqO false) (cBin ixO (cVar 0) (cC (.int 0))) (cC (.str "order")))) (cRet (cBin addO (cLst (cCons (cC (.str "order")) (cCons (cBin ixO (cVar 0) (cC (.int 1))) (cCons (cBin ixO (cVar 0) (cC (.int 2))) (cCons (cOp strOne (cCons (cBin ixO (cVar 0) (cC (.int 3))) cNil)) (cCons (cOp strOne (cCons (cBin ixO (cVar 0) (cC (.int 4))) cNil)) cNil)))))) (cVar 1))) cNx)
    (cSeq (cIfS (cTest (cBin (eqO false) (cBin ixO (cVar 0) (cC (.int 0))) (cC (.str "call")))) (cSeq (cSet 2 (cIf (cTest (cBin (isO false) (cBin ixO (cVar 0) (cC (.int 1))) (cC .non))) (cC (.str "-")) (cOp strOne (cCons (cBin ixO (cVar 0) (cC (.int 1))) cNil))))
    (cRet (cBin addO (cLst (cCons (cC (.str "call")) (cCons (cVar 2) cNil))) (cLc (sSeq (cBin ixO (cVar 0) (cC (.int 2)))) (gTp ((gNm 4) :: ((gNm 5) :: []))) cYes (cBin addO (cBin addO (cOp strOne (cCons (cVar 5) cNil)) (cC (.str "@"))) (cOp strOne (cCons (cVar 4) cNil))) [4, 5])))) cNx)
    (cRet (cBin addO (cLst (cCons (cBin ixO (cVar 0) (cC (.int 0))) cNil)) (cIf (cTest (cBin (eqO false) (cBin ixO (cVar 0) (cC (.int 0))) (cC (.str "cancel")))) (cLst (cCons (cOp strOne (cCons (cBin ixO (cVar 0) (cC (.int 1))) cNil)) cNil)) (cVar 1)))))))
def F__law_row_words : Fn := settled (runFn 1 6 b__law_row_words)

/-! ### _law_page -/
abbrev s__law_page : Stmt := topS 23
abbrev N__law_page : List Str := ["_law_good", "_law_row"]
theorem sc__law_page : FnScope N__law_page ["_law_good"] (defScope s__law_page) := ⟨rfl, rfl, rfl, by decide +kernel, rfl, by decide +kernel, by decide +kernel⟩
def b__law_page : B := (cRet (cMeth isS joinO (cC (.str "\n")) (cCons (cBin addO (cLst (cCons (cBin addO (cC (.str "record ")) (cBin ixO (cVar 0) (cC (.int 0)))) cNil)) (cLc (sSeq (cBin ixO (cVar 0) (cC (.int 1)))) (gNm 1) cYes (cMeth isS joinO (cC (.str " ")) (cCons (cCall F__law_row_words [] (cCons (cVar 1) cNil)) cNil)) [1])) cNil)))
def F__law_page : Fn := settled (runFn 1 2 b__law_page)

/-! ### _law_loose_row -/
abbrev s__law_loose_row : Stmt := topS 24
abbrev N__law_loose_row : List Str := ["_law_reader_here", "_law_pool", "_law_fills_here", "_law_k", "_law_n", "_law_pairs", "_law_name", "_law_side", "_law_found"]
theorem sc__law_loose_row : FnScope N__law_loose_row ["_law_reader_here"] (defScope s__law_loose_row) := ⟨rfl, rfl, rfl, by decide +kernel, rfl, by decide +kernel, by decide +kernel⟩
def b__law_loose_row : B := (cSeq (cSet 1 (cLst (cCons (cC (.int 1)) (cCons (cC (.int 2)) (cCons (cC (.int 10)) (cCons (cC (.int 999)) (cCons (cBin powO (cC (.int 10)) (cC (.int 59))) (cCons (cC (.int 77)) cNil))))))))
    (cSeq (cSet 2 (cNew cNil))
    (cSeq (cFor (sRng1 (cCons (cCall F__law_draw [] (cCons (cVar 0) (cCons (cC (.int 5)) cNil))) cNil)) (gNm 3) (cSeq (cSet 4 (cBin ixO (cLst (cCons (cC .non) (cCons (cC (.int 0)) (cCons (cC (.int 3)) (cCons (cBin powO (cC (.int 10)) (cC (.int 59))) cNil))))) (cCall F__law_draw [] (cCons (cVar 0) (cCons (cC (.int 4)) cNil)))))
    (cDrop (cMeth isL appendO (cVar 2) (cCons (cTup (cCons (cBin ixO (cVar 1) (cCall F__law_draw [] (cCons (cVar 0) (cCons (cC (.int 6)) cNil)))) (cCons (cBin ixO (cVar 1) (cCall F__law_draw [] (cCons (cVar 0) (cCons (cC (.int 6)) cNil)))) (cCons (cVar 4) cNil)))) cNil)))))
    (cSeq (cSet 5 (cLc (sSeq (cSl (cLst (cCons (cC (.int 0)) (cCons (cC (.int 1)) (cCons (cC (.int 5)) (cCons (cC (.int 8)) (cCons (cBin powO (cC (.int 10)) (cC (.int 59))) cNil)))))) (cP (cCall F__law_draw [] (cCons (cVar 0) (cCons (cC (.int 6)) cNil)))) cNoP)) (gNm 4) cYes (cTup (cCons (cVar 4) (cCons (cBin ixO (cVar 1) (cCall F__law_draw [] (cCons (cVar 0) (cCons (cC (.int 6)) cNil)))) cNil))) [4]))
    (cSeq (cPar 6 7 (cCons (cBin ixO (cLst (cCons (cC (.str "ann")) (cCons (cC (.str "order")) (cCons (cC (.str "zzzzzzzz")) cNil)))) (cCall F__law_draw [] (cCons (cVar 0) (cCons (cC (.int 3)) cNil)))) (cCons (cBin ixO (cLst (cCons (cC (.str "buy")) (cCons (cC (.str "sell")) cNil))) (cCall F__law_draw [] (cCons (cVar 0) (cCons (cC (.int 2)) cNil)))) cNil)))
    (cSeq (cSet 8 (cLst (cCons (cTup (cCons (cC (.str "order")) (cCons (cVar 6) (cCons (cVar 7) (cCons (cBin ixO (cVar 1) (cCall F__law_draw [] (cCons (cVar 0) (cCons (cC (.int 6)) cNil)))) (cCons (cBin ixO (cVar 1) (cCall F__law_draw [] (cCons (cVar 0) (cCons (cC (.int 6)) cNil)))) (cCons (cOp tupleO (cCons (cVar 2) cNil)) cNil))))))) cNil)))
    (cSeq (cSet 8 (cBin addO (cVar 8) (cLst (cCons (cTup (cCons (cC (.str "prints")) (cCons (cOp tupleO (cCons (cVar 2) cNil)) cNil))) (cCons (cTup (cCons (cC (.str "cancel")) (cCons (cBin ixO (cLst (cCons (cC (.int 0)) (cCons (cC (.int 7)) (cCons (cBin powO (cC (.int 10)) (cC (.int 59))) cNil)))) (cCall F__law_draw [] (cCons (cVar 0) (cCons (cC (.int 3)) cNil)))) cNil))) (cCons (cTup (cCons (cC (.str "closed")) cNil)) cNil))))))
    (cRet (cBin ixO (cBin addO (cVar 8) (cLst (cCons (cTup (cCons (cC (.str "call")) (cCons (cBin ixO (cVar 1) (cCall F__law_draw [] (cCons (cVar 0) (cCons (cC (.int 6)) cNil)))) (cCons (cOp tupleO (cCons (cVar 5) cNil)) cNil)))) (cCons (cTup (cCons (cC (.str "call")) (cCons (cC .non) (cCons (cTup cNil) cNil)))) cNil)))) (cCall F__law_draw [] (cCons (cVar 0) (cCons (cC (.int 6)) cNil))))))))))))
def F__law_loose_row : Fn := settled (runFn 1 9 b__law_loose_row)

/-! ### law -/
abbrev s_law : Stmt := topS 25
abbrev N_law : List Str := ["_law_script", "_law_reader_here", "_law_lots", "_law_turn", "_law_good", "_law_saved", "_law_row", "_law_k"]
theorem sc_law : FnScope N_law ["_law_script"] (defScope s_law) := ⟨rfl, rfl, rfl, by decide +kernel, rfl, by decide +kernel, by decide +kernel⟩
def b_law : B := (cSeq (cSet 1 (cCall F__law_reader [] (cCons (cVar 0) cNil)))
    (cSeq (cSet 2 (cCall F__law_fixed_records [] cNil))
    (cSeq (cFor (sRng1 (cCons (cC (.int 5)) cNil)) (gNm 3) (cSeq (cDrop (cMeth isL appendO (cVar 2) (cCons (cCall F__law_random_record [] (cCons (cVar 1) (cCons (cC (.int 8)) cNil))) cNil)))
    (cDrop (cMeth isL appendO (cVar 2) (cCons (cTup (cCons (cC (.str "late")) (cCons (cOp tupleO (cCons (cLc (sRng1 (cCons (cCall F__law_draw [] (cCons (cVar 1) (cCons (cC (.int 5)) cNil))) cNil)) (gNm 7) cYes (cCall F__law_loose_row [] (cCons (cVar 1) cNil)) [7]) cNil)) cNil))) cNil)))))
    (cSeq (cDrop (cMeth isL appendO (cVar 2) (cCons (cTup (cCons (cC (.str "price")) (cCons (cBin repO (cTup (cCons (cTup (cCons (cC (.str "prints")) (cCons (cTup (cCons (cTup (cCons (cC (.int 10)) (cCons (cC (.int 1)) (cCons (cC .non) cNil)))) (cCons (cTup (cCons (cC (.int 9)) (cCons (cC (.int 2)) (cCons (cC (.int 3)) cNil)))) cNil))) cNil))) cNil)) (cC (.int 30))) cNil))) cNil)))
    (cSeq (cFor (sSeq (cVar 2)) (gNm 4) (cSeq (cSet 5 (cOp reprO (cCons (cVar 4) cNil)))
    (cSeq (cIfS (cTest (cBin (eqO true) (cOp reprO (cCons (cCall F_record_text [] (cCons (cVar 4) cNil)) cNil)) (cOp reprO (cCons (cCall F__law_page [] (cCons (cVar 4) cNil)) cNil)))) (cRet (cC (.bl false))) cNx)
    (cSeq (cFor (sSeq (cBin ixO (cVar 4) (cC (.int 1)))) (gNm 6) (cIfS (cTest (cBin (eqO true) (cOp reprO (cCons (cCall F_row_text [] (cCons (cVar 6) cNil)) cNil)) (cOp reprO (cCons (cMeth isS joinO (cC (.str " ")) (cCons (cCall F__law_row_words [] (cCons (cVar 6) cNil)) cNil)) cNil)))) (cRet (cC (.bl false))) cNx))
    (cIfS (cTest (cBin (eqO true) (cOp reprO (cCons (cVar 4) cNil)) (cVar 5))) (cRet (cC (.bl false))) cNx)))))
    (cRet (cC (.bl true))))))))
def F_law : Fn := settled (runFn 1 8 b_law)

/-! ### what the top has left -/
structure Txt (K : PySem.W.Frag) (mg : Str → Option Value) where
  f_order_word : Addr
  fd_order_word : FuncData
  F_order_word : Fun K "order_word" "order_word" s_order_word f_order_word fd_order_word
  g_order_word : mg "order_word" = some (.ref f_order_word)
  b_order_word : Binds K fd_order_word ["n"] []
  f_fill_words : Addr
  fd_fill_words : FuncData
  F_fill_words : Fun K "fill_words" "fill_words" s_fill_words f_fill_words fd_fill_words
  g_fill_words : mg "fill_words" = some (.ref f_fill_words)
  b_fill_words : Binds K fd_fill_words ["fills"] []
  f_row_words : Addr
  fd_row_words : FuncData
  F_row_words : Fun K "row_words" "row_words" s_row_words f_row_words fd_row_words
  g_row_words : mg "row_words" = some (.ref f_row_words)
  b_row_words : Binds K fd_row_words ["row"] []
  f_row_text : Addr
  fd_row_text : FuncData
  F_row_text : Fun K "row_text" "row_text" s_row_text f_row_text fd_row_text
  g_row_text : mg "row_text" = some (.ref f_row_text)
  b_row_text : Binds K fd_row_text ["row"] []
  f_record_text : Addr
  fd_record_text : FuncData
  F_record_text : Fun K "record_text" "record_text" s_record_text f_record_text fd_record_text
  g_record_text : mg "record_text" = some (.ref f_record_text)
  b_record_text : Binds K fd_record_text ["record"] []
  f__law_reader : Addr
  fd__law_reader : FuncData
  F__law_reader : Fun K "_law_reader" "_law_reader" s__law_reader f__law_reader fd__law_reader
  g__law_reader : mg "_law_reader" = some (.ref f__law_reader)
  b__law_reader : Binds K fd__law_reader ["_law_script"] []
  f__law_draw : Addr
  fd__law_draw : FuncData
  F__law_draw : Fun K "_law_draw" "_law_draw" s__law_draw f__law_draw fd__law_draw
  g__law_draw : mg "_law_draw" = some (.ref f__law_draw)
  b__law_draw : Binds K fd__law_draw ["_law_reader_here", "_law_many"] []
  f__law_fills : Addr
  fd__law_fills : FuncData
  F__law_fills : Fun K "_law_fills" "_law_fills" s__law_fills f__law_fills fd__law_fills
  g__law_fills : mg "_law_fills" = some (.ref f__law_fills)
  b__law_fills : Binds K fd__law_fills ["_law_row"] []
  f__law_trades : Addr
  fd__law_trades : FuncData
  F__law_trades : Fun K "_law_trades" "_law_trades" s__law_trades f__law_trades fd__law_trades
  g__law_trades : mg "_law_trades" = some (.ref f__law_trades)
  b__law_trades : Binds K fd__law_trades ["_law_rows", "_law_t", "_law_i"] []
  f__law_rest : Addr
  fd__law_rest : FuncData
  F__law_rest : Fun K "_law_rest" "_law_rest" s__law_rest f__law_rest fd__law_rest
  g__law_rest : mg "_law_rest" = some (.ref f__law_rest)
  b__law_rest : Binds K fd__law_rest ["_law_rows", "_law_n", "_law_t", "_law_i"] []
  f__law_orders : Addr
  fd__law_orders : FuncData
  F__law_orders : Fun K "_law_orders" "_law_orders" s__law_orders f__law_orders fd__law_orders
  g__law_orders : mg "_law_orders" = some (.ref f__law_orders)
  b__law_orders : Binds K fd__law_orders ["_law_rows"] []
  f__law_open : Addr
  fd__law_open : FuncData
  F__law_open : Fun K "_law_open" "_law_open" s__law_open f__law_open fd__law_open
  g__law_open : mg "_law_open" = some (.ref f__law_open)
  b__law_open : Binds K fd__law_open ["_law_rows", "_law_t", "_law_i"] []
  f__law_is_shut : Addr
  fd__law_is_shut : FuncData
  F__law_is_shut : Fun K "_law_is_shut" "_law_is_shut" s__law_is_shut f__law_is_shut fd__law_is_shut
  g__law_is_shut : mg "_law_is_shut" = some (.ref f__law_is_shut)
  b__law_is_shut : Binds K fd__law_is_shut ["_law_rows", "_law_t"] []
  f__law_new_fills : Addr
  fd__law_new_fills : FuncData
  F__law_new_fills : Fun K "_law_new_fills" "_law_new_fills" s__law_new_fills f__law_new_fills fd__law_new_fills
  g__law_new_fills : mg "_law_new_fills" = some (.ref f__law_new_fills)
  b__law_new_fills : Binds K fd__law_new_fills ["_law_reader_here", "_law_rows", "_law_most", "_law_left", "_law_side", "_law_limit"] []
  f__law_new_row : Addr
  fd__law_new_row : FuncData
  F__law_new_row : Fun K "_law_new_row" "_law_new_row" s__law_new_row f__law_new_row fd__law_new_row
  g__law_new_row : mg "_law_new_row" = some (.ref f__law_new_row)
  b__law_new_row : Binds K fd__law_new_row ["_law_reader_here", "_law_rows"] []
  f__law_random_rows : Addr
  fd__law_random_rows : FuncData
  F__law_random_rows : Fun K "_law_random_rows" "_law_random_rows" s__law_random_rows f__law_random_rows fd__law_random_rows
  g__law_random_rows : mg "_law_random_rows" = some (.ref f__law_random_rows)
  b__law_random_rows : Binds K fd__law_random_rows ["_law_reader_here", "_law_most"] []
  f__law_random_record : Addr
  fd__law_random_record : FuncData
  F__law_random_record : Fun K "_law_random_record" "_law_random_record" s__law_random_record f__law_random_record fd__law_random_record
  g__law_random_record : mg "_law_random_record" = some (.ref f__law_random_record)
  b__law_random_record : Binds K fd__law_random_record ["_law_reader_here", "_law_most"] []
  f__law_fixed_records : Addr
  fd__law_fixed_records : FuncData
  F__law_fixed_records : Fun K "_law_fixed_records" "_law_fixed_records" s__law_fixed_records f__law_fixed_records fd__law_fixed_records
  g__law_fixed_records : mg "_law_fixed_records" = some (.ref f__law_fixed_records)
  b__law_fixed_records : Binds K fd__law_fixed_records [] []
  f__law_fill_word : Addr
  fd__law_fill_word : FuncData
  F__law_fill_word : Fun K "_law_fill_word" "_law_fill_word" s__law_fill_word f__law_fill_word fd__law_fill_word
  g__law_fill_word : mg "_law_fill_word" = some (.ref f__law_fill_word)
  b__law_fill_word : Binds K fd__law_fill_word ["_law_fill"] []
  f__law_row_words : Addr
  fd__law_row_words : FuncData
  F__law_row_words : Fun K "_law_row_words" "_law_row_words" s__law_row_words f__law_row_words fd__law_row_words
  g__law_row_words : mg "_law_row_words" = some (.ref f__law_row_words)
  b__law_row_words : Binds K fd__law_row_words ["_law_row"] []
  f__law_page : Addr
  fd__law_page : FuncData
  F__law_page : Fun K "_law_page" "_law_page" s__law_page f__law_page fd__law_page
  g__law_page : mg "_law_page" = some (.ref f__law_page)
  b__law_page : Binds K fd__law_page ["_law_good"] []
  f__law_loose_row : Addr
  fd__law_loose_row : FuncData
  F__law_loose_row : Fun K "_law_loose_row" "_law_loose_row" s__law_loose_row f__law_loose_row fd__law_loose_row
  g__law_loose_row : mg "_law_loose_row" = some (.ref f__law_loose_row)
  b__law_loose_row : Binds K fd__law_loose_row ["_law_reader_here"] []
  f_law : Addr
  fd_law : FuncData
  F_law : Fun K "law" "law" s_law f_law fd_law
  g_law : mg "law" = some (.ref f_law)
  b_law : Binds K fd_law ["_law_script"] []
  t_NOBODY : Tok
  g_NOBODY : mg "NOBODY" = some (.str "-" t_NOBODY)
  n_int : mg "int" = none
  n_len : mg "len" = none
  n_list : mg "list" = none
  n_min : mg "min" = none
  n_range : mg "range" = none
  n_repr : mg "repr" = none
  n_str : mg "str" = none
  n_sum : mg "sum" = none
  n_tuple : mg "tuple" = none
  w_law : ∀ (s : Shared) (v : Value), BindsTo s fd_law ⟨[v], []⟩ [("_law_script", v)]
section
variable {P : Program} {w : World} {K : PySem.W.Frag} {mg : Str → Option Value} {base : Heap}
theorem ok_order_word (T : Txt K mg) : FG P w K mg base 1 T.f_order_word T.fd_order_word ["n"] F_order_word := by
  exact (fg_of T.F_order_word sc_order_word fun cdv A outer s H hr hgd => (dss_one (ds_ret (de_ifExp (dt_isN (de_var 0) de_non) (de_glob (v := V.str "-") (by rfl) T.g_NOBODY ⟨_, rfl⟩ (fun _ _ _ _ => .str _)) (de_strOf (by rfl) T.n_str (da_cons (de_var 0) da_nil)))))).settled

theorem ok_fill_words (T : Txt K mg) : FG P w K mg base 2 T.f_fill_words T.fd_fill_words ["fills"] F_fill_words := by
  have G_order_word := (ok_order_word (P := P) (w := w) (base := base) T).mono (by decide : 1 ≤ 1)
  exact (fg_of T.F_fill_words sc_fill_words fun cdv A outer s H hr hgd => (dss_one (ds_ret (de_lc rfl sc_fill_words.nd (di_seq (de_var 0)) (blkOk_by (own := [("price", 1), ("size", 2), ("n", 3)]) (N := N_fill_words) (sc := defScope s_fill_words) (by decide +kernel)) (fun _ _ _ _ _ => (dg_tp rfl (dgs_cons (dg_nm 1 sc_fill_words.nd rfl (.inl rfl)) (dgs_cons (dg_nm 2 sc_fill_words.nd rfl (.inl rfl)) (dgs_cons (dg_nm 3 sc_fill_words.nd rfl (.inl rfl)) dgs_nil))))) (fun _ _ _ _ _ => dts_nil) (fun _ _ _ _ _ => (de_joined (DJ.cons (de_fmt (de_var 1)) (DJ.cons de_str (DJ.cons (de_fmt (de_var 2)) (DJ.cons de_str (DJ.cons (de_fmt (de_call G_order_word hr hgd (by rfl) T.g_order_word T.F_order_word.kp T.b_order_word (da_cons (de_var 3) da_nil))) DJ.nil))))))))))).settled

theorem ok_row_words (T : Txt K mg) : FG P w K mg base 3 T.f_row_words T.fd_row_words ["row"] F_row_words := by
  have G_fill_words := (ok_fill_words (P := P) (w := w) (base := base) T).mono (by decide : 2 ≤ 2)
  have G_order_word := (ok_order_word (P := P) (w := w) (base := base) T).mono (by decide : 1 ≤ 2)
  exact (fg_of T.F_row_words sc_row_words fun cdv A outer s H hr hgd => (dss_one (ds_match (de_ix (de_var 0) de_int) (dm_case (dss_cons (ds_asg (de_var 0) (dg_tp rfl (dgs_cons (dg_nm 1 sc_row_words.nd rfl (.inl rfl)) (dgs_cons (dg_nm 2 sc_row_words.nd rfl (.inl rfl)) (dgs_cons (dg_nm 3 sc_row_words.nd rfl (.inl rfl)) (dgs_cons (dg_nm 4 sc_row_words.nd rfl (.inl rfl)) (dgs_cons (dg_nm 5 sc_row_words.nd rfl (.inl rfl)) (dgs_cons (dg_nm 6 sc_row_words.nd rfl (.inl rfl)) dgs_nil))))))))
      (dss_one (ds_ret (de_lst (da_cons (de_var 1) (da_cons (de_var 2) (da_cons (de_var 3) (da_cons (de_strOf (by rfl) T.n_str (da_cons (de_var 4) da_nil)) (da_cons (de_strOf (by rfl) T.n_str (da_cons (de_var 5) da_nil)) (da_star (de_call G_fill_words hr hgd (by rfl) T.g_fill_words T.F_fill_words.kp T.b_fill_words (da_cons (de_var 6) da_nil)) da_nil)))))))))) (dm_case (dss_one (ds_ret (de_lst (da_cons (de_ix (de_var 0) de_int) (da_star (de_call G_fill_words hr hgd (by rfl) T.g_fill_words T.F_fill_words.kp T.b_fill_words (da_cons (de_ix (de_var 0) de_int) da_nil)) da_nil))))) (dm_case (dss_one (ds_ret (de_lst (da_cons (de_ix (de_var 0) de_int) (da_cons (de_call G_order_word hr hgd (by rfl) T.g_order_word T.F_order_word.kp T.b_order_word (da_cons (de_ix (de_var 0) de_int) da_nil)) (da_star (de_lc rfl sc_row_words.nd (di_seq (de_ix (de_var 0) de_int)) (blkOk_by (own := [("n", 7), ("size", 5)]) (N := N_row_words) (sc := defScope s_row_words) (by decide +kernel)) (fun _ _ _ _ _ => (dg_tp rfl (dgs_cons (dg_nm 7 sc_row_words.nd rfl (.inl rfl)) (dgs_cons (dg_nm 5 sc_row_words.nd rfl (.inl rfl)) dgs_nil)))) (fun _ _ _ _ _ => dts_nil) (fun _ _ _ _ _ => (de_joined (DJ.cons (de_fmt (de_var 5)) (DJ.cons de_str (DJ.cons (de_fmt (de_var 7)) DJ.nil)))))) da_nil)))))) (dm_else (dss_one (ds_ret (de_lst (da_cons (de_ix (de_var 0) de_int) (da_star (de_lc rfl sc_row_words.nd (di_seq (de_slice (de_var 0) (do_some de_int) do_none)) (blkOk_by (own := [("n", 7)]) (N := N_row_words) (sc := defScope s_row_words) (by decide +kernel)) (fun _ _ _ _ _ => (dg_nm 7 sc_row_words.nd rfl (.inl rfl))) (fun _ _ _ _ _ => dts_nil) (fun _ _ _ _ _ => (de_strOf (by rfl) T.n_str (da_cons (de_var 7) da_nil)))) da_nil)))))))))))).settled

theorem ok_row_text (T : Txt K mg) : FG P w K mg base 4 T.f_row_text T.fd_row_text ["row"] F_row_text := by
  have G_row_words := (ok_row_words (P := P) (w := w) (base := base) T).mono (by decide : 3 ≤ 3)
  exact (fg_of T.F_row_text sc_row_text fun cdv A outer s H hr hgd => (dss_one (ds_ret (de_join de_str (da_cons (de_call G_row_words hr hgd (by rfl) T.g_row_words T.F_row_words.kp T.b_row_words (da_cons (de_var 0) da_nil)) da_nil))))).settled

theorem ok_record_text (T : Txt K mg) : FG P w K mg base 5 T.f_record_text T.fd_record_text ["record"] F_record_text := by
  have G_row_text := (ok_row_text (P := P) (w := w) (base := base) T).mono (by decide : 4 ≤ 4)
  exact (fg_of T.F_record_text sc_record_text fun cdv A outer s H hr hgd => (dss_cons (ds_asg (de_var 0) (dg_tp rfl (dgs_cons (dg_nm 1 sc_record_text.nd rfl (.inl rfl)) (dgs_cons (dg_nm 2 sc_record_text.nd rfl (.inl rfl)) dgs_nil))))
      (dss_one (ds_ret (de_join de_str (da_cons (de_lst (da_cons (de_joined (DJ.cons de_str (DJ.cons (de_fmt (de_var 1)) DJ.nil))) (da_star (de_lc rfl sc_record_text.nd (di_seq (de_var 2)) (blkOk_by (own := [("row", 3)]) (N := N_record_text) (sc := defScope s_record_text) (by decide +kernel)) (fun _ _ _ _ _ => (dg_nm 3 sc_record_text.nd rfl (.inl rfl))) (fun _ _ _ _ _ => dts_nil) (fun _ _ _ _ _ => (de_call G_row_text hr hgd (by rfl) T.g_row_text T.F_row_text.kp T.b_row_text (da_cons (de_var 3) da_nil)))) da_nil))) da_nil)))))).settled

theorem ok__law_reader (T : Txt K mg) : FG P w K mg base 1 T.f__law_reader T.fd__law_reader ["_law_script"] F__law_reader := by
  exact fg_of T.F__law_reader sc__law_reader fun cdv A outer s H hr hgd => (dss_one (ds_ret (de_disp (DP.cons de_str (de_listOf (by rfl) T.n_list (da_cons (de_slice (de_var 0) do_none (do_some de_int)) da_nil)) (DP.cons de_str de_int (DP.cons de_str de_int (DP.cons de_str de_int DP.nil)))))))

theorem ok__law_draw (T : Txt K mg) : FG P w K mg base 1 T.f__law_draw T.fd__law_draw ["_law_reader_here", "_law_many"] F__law_draw := by
  exact (fg_of T.F__law_draw sc__law_draw fun cdv A outer s H hr hgd => (dss_cons (ds_set 2 (de_add (de_dget hr (de_var 0) de_str) de_int) sc__law_draw.nd rfl (.inl rfl))
      (dss_cons (ds_dput hr (de_var 0) de_str (de_var 2))
      (dss_cons (ds_if (dt_gt (de_dget hr (de_var 0) de_str) de_int) (dss_cons (ds_set 3 (de_mod (de_intOf (by rfl) T.n_int (da_cons (de_dget hr (de_var 0) de_str) da_nil)) (de_var 1)) sc__law_draw.nd rfl (.inl rfl))
      (dss_cons (ds_dput hr (de_var 0) de_str (de_div (de_dget hr (de_var 0) de_str) (de_var 1)))
      (dss_one (ds_ret (de_var 3))))) dss_nil)
      (dss_cons (ds_set 4 (de_dget hr (de_var 0) de_str) sc__law_draw.nd rfl (.inl rfl))
      (dss_cons (ds_dput hr (de_var 0) de_str (de_add (de_var 4) de_int))
      (dss_cons (ds_set 5 (de_dget hr (de_var 0) de_str) sc__law_draw.nd rfl (.inl rfl))
      (dss_cons (ds_set 6 (de_ifExp (dt_gt (de_len (by rfl) T.n_len (da_cons (de_var 5) da_nil)) de_int) (de_ix (de_var 5) (de_mod (de_intOf (by rfl) T.n_int (da_cons (de_var 4) da_nil)) (de_len (by rfl) T.n_len (da_cons (de_var 5) da_nil)))) de_int) sc__law_draw.nd rfl (.inl rfl))
      (dss_cons (ds_if (PW.pt (dw_and (dt_lt (de_var 4) (de_len (by rfl) T.n_len (da_cons (de_var 5) da_nil))) (dw_and1 (dt_ge (de_var 6) (de_pow de_int de_int))))) (dss_cons (ds_dput hr (de_var 0) de_str (de_div (de_var 6) (de_var 1)))
      (dss_one (ds_ret (de_mod (de_intOf (by rfl) T.n_int (da_cons (de_var 6) da_nil)) (de_var 1))))) dss_nil)
      (dss_cons (ds_set 7 (de_mod (de_intOf (by rfl) T.n_int (da_cons (de_pow (de_add (de_add (de_mod (de_intOf (by rfl) T.n_int (da_cons (de_var 6) da_nil)) de_int) (de_mul de_int (de_var 2))) de_int) de_int) da_nil)) de_int) sc__law_draw.nd rfl (.inl rfl))
      (dss_one (ds_ret (de_mod (de_intOf (by rfl) T.n_int (da_cons (de_div (de_mod (de_intOf (by rfl) T.n_int (da_cons (de_pow (de_add (de_var 7) (de_mul (de_mul de_int (de_var 2)) (de_var 2))) de_int) da_nil)) de_int) de_int) da_nil)) (de_var 1)))))))))))))).settled

theorem ok__law_fills (T : Txt K mg) : FG P w K mg base 1 T.f__law_fills T.fd__law_fills ["_law_row"] F__law_fills := by
  exact (fg_of T.F__law_fills sc__law_fills fun cdv A outer s H hr hgd => (dss_one (ds_ret (de_ifExp (dt_eq hr (de_ix (de_var 0) de_int) de_str) (de_ix (de_var 0) de_int) (de_ifExp (dt_eq hr (de_ix (de_var 0) de_int) de_str) (de_ix (de_var 0) de_int) (de_tup da_nil)))))).settled

theorem ok__law_trades (T : Txt K mg) : FG P w K mg base 2 T.f__law_trades T.fd__law_trades ["_law_rows", "_law_t", "_law_i"] F__law_trades := by
  have G__law_fills := (ok__law_fills (P := P) (w := w) (base := base) T).mono (by decide : 1 ≤ 1)
  exact (fg_of T.F__law_trades sc__law_trades fun cdv A outer s H hr hgd => (dss_cons (ds_set 3 (de_new da_nil) sc__law_trades.nd rfl (.inl rfl))
      (dss_cons (ds_for PassesOwn.never rfl (di_rng1 (by rfl) T.n_range (da_cons (de_min rfl (by rfl) T.n_min (da_cons (de_add (de_var 1) de_int) (da_cons (de_len (by rfl) T.n_len (da_cons (de_var 0) da_nil)) da_nil))) da_nil)) (dg_nm 4 sc__law_trades.nd rfl (.inl rfl)) (dss_cons (ds_set 5 (de_ix (de_var 0) (de_var 4)) sc__law_trades.nd rfl (.inl rfl))
      (dss_cons (ds_for PassesOwn.never rfl (di_seq (de_slice (de_call G__law_fills hr hgd (by rfl) T.g__law_fills T.F__law_fills.kp T.b__law_fills (da_cons (de_var 5) da_nil)) do_none (do_some (de_ifExp (dt_lt (de_var 4) (de_var 1)) (de_len (by rfl) T.n_len (da_cons (de_call G__law_fills hr hgd (by rfl) T.g__law_fills T.F__law_fills.kp T.b__law_fills (da_cons (de_var 5) da_nil)) da_nil)) (de_var 2))))) (dg_tp rfl (dgs_cons (dg_nm 6 sc__law_trades.nd rfl (.inl rfl)) (dgs_cons (dg_nm 7 sc__law_trades.nd rfl (.inl rfl)) (dgs_cons (dg_nm 8 sc__law_trades.nd rfl (.inl rfl)) dgs_nil)))) (dss_cons (ds_if (dt_eq hr (de_ix (de_var 5) de_int) de_str) (dss_one (ds_expr (de_append (de_var 3) (da_cons (de_tup (da_cons (de_var 4) (da_cons (de_var 7) da_nil))) da_nil)))) dss_nil)
      (dss_one (ds_if (dt_notN (de_var 8) de_non) (dss_one (ds_expr (de_append (de_var 3) (da_cons (de_tup (da_cons (de_var 8) (da_cons (de_var 7) da_nil))) da_nil)))) dss_nil))))
      (dss_one (ds_if (PW.pt (dw_and (dt_eq hr (de_ix (de_var 5) de_int) de_str) (dw_and1 (dt_lt (de_var 4) (de_var 1))))) (dss_one (ds_expr (de_extend (de_var 3) (da_cons (de_ix (de_var 5) de_int) da_nil)))) dss_nil)))))
      (dss_one (ds_ret (de_var 3)))))).settled

theorem ok__law_rest (T : Txt K mg) : FG P w K mg base 3 T.f__law_rest T.fd__law_rest ["_law_rows", "_law_n", "_law_t", "_law_i"] F__law_rest := by
  have G__law_trades := (ok__law_trades (P := P) (w := w) (base := base) T).mono (by decide : 2 ≤ 2)
  exact (fg_of T.F__law_rest sc__law_rest fun cdv A outer s H hr hgd => (dss_one (ds_ret (de_sub (de_ix (de_ix (de_var 0) (de_var 1)) de_int) (de_sum rfl (by rfl) T.n_sum (da_cons (de_lc rfl sc__law_rest.nd (di_seq (de_call G__law_trades hr hgd (by rfl) T.g__law_trades T.F__law_trades.kp T.b__law_trades (da_cons (de_var 0) (da_cons (de_var 2) (da_cons (de_var 3) da_nil))))) (blkOk_by (own := [("_law_m", 4), ("_law_size", 5)]) (N := N__law_rest) (sc := defScope s__law_rest) (by decide +kernel)) (fun _ _ _ _ _ => (dg_tp rfl (dgs_cons (dg_nm 4 sc__law_rest.nd rfl (.inl rfl)) (dgs_cons (dg_nm 5 sc__law_rest.nd rfl (.inl rfl)) dgs_nil)))) (fun _ _ _ _ _ => (dts_one (dt_eq hr (de_var 4) (de_var 1)))) (fun _ _ _ _ _ => (de_var 5))) da_nil)))))).settled

theorem ok__law_orders (T : Txt K mg) : FG P w K mg base 1 T.f__law_orders T.fd__law_orders ["_law_rows"] F__law_orders := by
  exact (fg_of T.F__law_orders sc__law_orders fun cdv A outer s H hr hgd => (dss_one (ds_ret (de_lc rfl sc__law_orders.nd (di_rng1 (by rfl) T.n_range (da_cons (de_len (by rfl) T.n_len (da_cons (de_var 0) da_nil)) da_nil)) (blkOk_by (own := [("_law_k", 1)]) (N := N__law_orders) (sc := defScope s__law_orders) (by decide +kernel)) (fun _ _ _ _ _ => (dg_nm 1 sc__law_orders.nd rfl (.inl rfl))) (fun _ _ _ _ _ => (dts_one (dt_eq hr (de_ix (de_ix (de_var 0) (de_var 1)) de_int) de_str))) (fun _ _ _ _ _ => (de_var 1)))))).settled

theorem ok__law_open (T : Txt K mg) : FG P w K mg base 3 T.f__law_open T.fd__law_open ["_law_rows", "_law_t", "_law_i"] F__law_open := by
  have G__law_orders := (ok__law_orders (P := P) (w := w) (base := base) T).mono (by decide : 1 ≤ 2)
  have G__law_trades := (ok__law_trades (P := P) (w := w) (base := base) T).mono (by decide : 2 ≤ 2)
  exact (fg_of T.F__law_open sc__law_open fun cdv A outer s H hr hgd => (dss_cons (ds_set 3 (de_lc rfl sc__law_open.nd (di_seq (de_slice (de_var 0) do_none (do_some (de_var 1)))) (blkOk_by (own := [("_law_row", 8)]) (N := N__law_open) (sc := defScope s__law_open) (by decide +kernel)) (fun _ _ _ _ _ => (dg_nm 8 sc__law_open.nd rfl (.inl rfl))) (fun _ _ _ _ _ => (dts_one (dt_eq hr (de_ix (de_var 8) de_int) de_str))) (fun _ _ _ _ _ => (de_ix (de_var 8) de_int))) sc__law_open.nd rfl (.inr rfl))
      (dss_cons (ds_set 4 de_dnew sc__law_open.nd rfl (.inr rfl))
      (dss_cons (ds_for PassesOwn.never rfl (di_seq (de_call G__law_trades hr hgd (by rfl) T.g__law_trades T.F__law_trades.kp T.b__law_trades (da_cons (de_var 0) (da_cons (de_var 1) (da_cons (de_var 2) da_nil))))) (dg_tp rfl (dgs_cons (dg_nm 5 sc__law_open.nd rfl (.inl rfl)) (dgs_cons (dg_nm 6 sc__law_open.nd rfl (.inl rfl)) dgs_nil))) (dss_one (ds_dput hr (de_var 4) (de_var 5) (de_add (de_dget2 hr (de_var 4) (de_var 5) de_int) (de_var 6)))))
      (dss_cons (ds_setLc 7 rfl sc__law_open.nd rfl rfl (sw_true rfl rfl rfl (by decide +kernel)) (di_seq (de_call G__law_orders hr hgd (by rfl) T.g__law_orders T.F__law_orders.kp T.b__law_orders (da_cons (de_var 0) da_nil))) (blkOk_by (own := [("_law_n", 5)]) (N := N__law_open) (sc := defScope s__law_open) (by decide +kernel)) (fun _ _ _ _ _ => (dg_nm 5 sc__law_open.nd rfl (.inl rfl))) (fun _ _ _ _ _ => (dts_one (PW.pt (dw_and (dt_lt (de_var 5) (de_var 1)) (dw_and1 (dt_notIn (de_var 5) (de_var 3))))))) (fun _ _ _ _ _ => (de_var 5)))
      (dss_one (ds_ret (de_lc rfl sc__law_open.nd (di_seq (de_var 7)) (blkOk_by (own := [("_law_n", 5)]) (N := N__law_open) (sc := defScope s__law_open) (by decide +kernel)) (fun _ _ _ _ _ => (dg_nm 5 sc__law_open.nd rfl (.inl rfl))) (fun _ _ _ _ _ => (dts_one (dt_gt (de_ix (de_ix (de_var 0) (de_var 5)) de_int) (de_dget2 hr (de_var 4) (de_var 5) de_int)))) (fun _ _ _ _ _ => (de_var 5)))))))))).settled

theorem ok__law_is_shut (T : Txt K mg) : FG P w K mg base 1 T.f__law_is_shut T.fd__law_is_shut ["_law_rows", "_law_t"] F__law_is_shut := by
  exact (fg_of T.F__law_is_shut sc__law_is_shut fun cdv A outer s H hr hgd => (dss_one (ds_ret (de_and (de_gt (de_var 1) de_int) (de_and (de_eq hr (de_ix (de_var 0) de_int) (de_tup (da_cons de_str da_nil))) (de_one (de_eq hr (de_lc rfl sc__law_is_shut.nd (di_seq (de_slice (de_var 0) (do_some de_int) (do_some (de_var 1)))) (blkOk_by (own := [("_law_row", 2)]) (N := N__law_is_shut) (sc := defScope s__law_is_shut) (by decide +kernel)) (fun _ _ _ _ _ => (dg_nm 2 sc__law_is_shut.nd rfl (.inl rfl))) (fun _ _ _ _ _ => (dts_one (dt_eq hr (de_ix (de_var 2) de_int) de_str))) (fun _ _ _ _ _ => (de_var 2))) (de_lst da_nil)))))))).settled

theorem ok__law_new_fills (T : Txt K mg) : FG P w K mg base 4 T.f__law_new_fills T.fd__law_new_fills ["_law_reader_here", "_law_rows", "_law_most", "_law_left", "_law_side", "_law_limit"] F__law_new_fills := by
  have G__law_draw := (ok__law_draw (P := P) (w := w) (base := base) T).mono (by decide : 1 ≤ 3)
  have G__law_open := (ok__law_open (P := P) (w := w) (base := base) T).mono (by decide : 3 ≤ 3)
  have G__law_rest := (ok__law_rest (P := P) (w := w) (base := base) T).mono (by decide : 3 ≤ 3)
  exact (fg_of T.F__law_new_fills sc__law_new_fills fun cdv A outer s H hr hgd => (dss_cons (ds_par 6 7 rfl sc__law_new_fills.nd rfl rfl (by decide) rfl rfl (da_cons (de_new da_nil) (da_cons (de_len (by rfl) T.n_len (da_cons (de_var 1) da_nil)) da_nil)) (by rfl))
      (dss_cons (ds_for PassesOwn.never rfl (di_rng1 (by rfl) T.n_range (da_cons (de_call G__law_draw hr hgd (by rfl) T.g__law_draw T.F__law_draw.kp T.b__law_draw (da_cons (de_var 0) (da_cons (de_add (de_var 2) de_int) da_nil))) da_nil)) (dg_nm 8 sc__law_new_fills.nd rfl (.inl rfl)) (dss_cons (ds_set 9 (de_add (de_var 1) (de_lst (da_cons (de_tup (da_cons de_str (da_cons (de_tupleOf (by rfl) T.n_tuple (da_cons (de_var 6) da_nil)) da_nil))) da_nil))) sc__law_new_fills.nd rfl (.inl rfl))
      (dss_cons (ds_setLc 10 rfl sc__law_new_fills.nd rfl rfl (sw_true rfl rfl rfl (by decide +kernel)) (di_seq (de_call G__law_open hr hgd (by rfl) T.g__law_open T.F__law_open.kp T.b__law_open (da_cons (de_var 9) (da_cons (de_var 7) (da_cons (de_len (by rfl) T.n_len (da_cons (de_var 6) da_nil)) da_nil))))) (blkOk_by (own := [("_law_n", 12)]) (N := N__law_new_fills) (sc := defScope s__law_new_fills) (by decide +kernel)) (fun _ _ _ _ _ => (dg_nm 12 sc__law_new_fills.nd rfl (.inl rfl))) (fun _ _ _ _ _ => (dts_one (PW.pt (dw_or (dt_isN (de_var 4) de_non) (dw_or1 (dt_ne hr (de_ix (de_ix (de_var 1) (de_var 12)) de_int) (de_var 4))))))) (fun _ _ _ _ _ => (de_var 12)))
      (dss_cons (ds_if (dt_notN (de_var 4) de_non) (dss_one (ds_setLc 10 rfl sc__law_new_fills.nd rfl rfl (sw_true rfl rfl rfl (by decide +kernel)) (di_seq (de_var 10)) (blkOk_by (own := [("_law_n", 12)]) (N := N__law_new_fills) (sc := defScope s__law_new_fills) (by decide +kernel)) (fun _ _ _ _ _ => (dg_nm 12 sc__law_new_fills.nd rfl (.inl rfl))) (fun _ _ _ _ _ => (dts_one (dt_le (de_mul (de_sub (de_ix (de_ix (de_var 1) (de_var 12)) de_int) (de_var 5)) (de_ifExp (dt_eq hr (de_var 4) de_str) de_int (de_neg de_int))) de_int))) (fun _ _ _ _ _ => (de_var 12)))) dss_nil)
      (dss_cons (ds_set 11 (de_sub (de_var 3) (de_sum rfl (by rfl) T.n_sum (da_cons (de_lc rfl sc__law_new_fills.nd (di_seq (de_var 6)) (blkOk_by (own := [("_law_one", 15)]) (N := N__law_new_fills) (sc := defScope s__law_new_fills) (by decide +kernel)) (fun _ _ _ _ _ => (dg_nm 15 sc__law_new_fills.nd rfl (.inl rfl))) (fun _ _ _ _ _ => dts_nil) (fun _ _ _ _ _ => (de_ix (de_var 15) de_int))) da_nil))) sc__law_new_fills.nd rfl (.inl rfl))
      (dss_cons (ds_set 12 (de_ifExp (PW.pt (dw_and (dt_ne hr (de_var 10) (de_lst da_nil)) (dw_and1 (dt_gt (de_call G__law_draw hr hgd (by rfl) T.g__law_draw T.F__law_draw.kp T.b__law_draw (da_cons (de_var 0) (da_cons de_int da_nil))) de_int)))) (de_ix (de_var 10) (de_call G__law_draw hr hgd (by rfl) T.g__law_draw T.F__law_draw.kp T.b__law_draw (da_cons (de_var 0) (da_cons (de_len (by rfl) T.n_len (da_cons (de_var 10) da_nil)) da_nil)))) de_non) sc__law_new_fills.nd rfl (.inl rfl))
      (dss_cons (ds_set 13 (de_ifExp (dt_notN (de_var 12) de_non) (de_min rfl (by rfl) T.n_min (da_cons (de_var 11) (da_cons (de_call G__law_rest hr hgd (by rfl) T.g__law_rest T.F__law_rest.kp T.b__law_rest (da_cons (de_var 9) (da_cons (de_var 12) (da_cons (de_var 7) (da_cons (de_len (by rfl) T.n_len (da_cons (de_var 6) da_nil)) da_nil))))) da_nil))) (de_var 11)) sc__law_new_fills.nd rfl (.inl rfl))
      (dss_one (ds_if (dt_gt (de_var 13) de_int) (dss_cons (ds_set 14 (de_ifExp (dt_notN (de_var 12) de_non) (de_ix (de_ix (de_var 1) (de_var 12)) de_int) (de_add de_int (de_call G__law_draw hr hgd (by rfl) T.g__law_draw T.F__law_draw.kp T.b__law_draw (da_cons (de_var 0) (da_cons de_int da_nil))))) sc__law_new_fills.nd rfl (.inl rfl))
      (dss_cons (ds_if (PW.pt (dw_and (dt_isN (de_var 12) de_non) (dw_and1 (dt_notN (de_var 4) de_non)))) (dss_one (ds_set 14 (de_add (de_var 5) (de_mul (de_call G__law_draw hr hgd (by rfl) T.g__law_draw T.F__law_draw.kp T.b__law_draw (da_cons (de_var 0) (da_cons de_int da_nil))) (de_ifExp (dt_eq hr (de_var 4) de_str) (de_neg de_int) de_int))) sc__law_new_fills.nd rfl (.inl rfl))) dss_nil)
      (dss_one (ds_expr (de_append (de_var 6) (da_cons (de_tup (da_cons (de_var 14) (da_cons (de_add de_int (de_call G__law_draw hr hgd (by rfl) T.g__law_draw T.F__law_draw.kp T.b__law_draw (da_cons (de_var 0) (da_cons (de_min rfl (by rfl) T.n_min (da_cons (de_var 13) (da_cons de_int da_nil))) da_nil)))) (da_cons (de_var 12) da_nil)))) da_nil)))))) dss_nil)))))))))
      (dss_one (ds_ret (de_tupleOf (by rfl) T.n_tuple (da_cons (de_var 6) da_nil))))))).settled

theorem ok__law_new_row (T : Txt K mg) : FG P w K mg base 5 T.f__law_new_row T.fd__law_new_row ["_law_reader_here", "_law_rows"] F__law_new_row := by
  have G__law_draw := (ok__law_draw (P := P) (w := w) (base := base) T).mono (by decide : 1 ≤ 4)
  have G__law_is_shut := (ok__law_is_shut (P := P) (w := w) (base := base) T).mono (by decide : 1 ≤ 4)
  have G__law_new_fills := (ok__law_new_fills (P := P) (w := w) (base := base) T).mono (by decide : 4 ≤ 4)
  have G__law_open := (ok__law_open (P := P) (w := w) (base := base) T).mono (by decide : 3 ≤ 4)
  have G__law_rest := (ok__law_rest (P := P) (w := w) (base := base) T).mono (by decide : 3 ≤ 4)
  exact (fg_of T.F__law_new_row sc__law_new_row fun cdv A outer s H hr hgd => (dss_cons (ds_asg (de_tup (da_cons (de_len (by rfl) T.n_len (da_cons (de_var 1) da_nil)) (da_cons (de_call G__law_is_shut hr hgd (by rfl) T.g__law_is_shut T.F__law_is_shut.kp T.b__law_is_shut (da_cons (de_var 1) (da_cons (de_len (by rfl) T.n_len (da_cons (de_var 1) da_nil)) da_nil))) da_nil))) (dg_tp rfl (dgs_cons (dg_nm 2 sc__law_new_row.nd rfl (.inr rfl)) (dgs_cons (dg_nm 3 sc__law_new_row.nd rfl (.inl rfl)) dgs_nil))))
      (dss_cons (ds_par 4 5 rfl sc__law_new_row.nd rfl rfl (by decide) rfl rfl (da_cons (de_call G__law_open hr hgd (by rfl) T.g__law_open T.F__law_open.kp T.b__law_open (da_cons (de_var 1) (da_cons (de_var 2) (da_cons de_int da_nil)))) (da_cons (de_call G__law_draw hr hgd (by rfl) T.g__law_draw T.F__law_draw.kp T.b__law_draw (da_cons (de_var 0) (da_cons de_int da_nil))) da_nil)) (by rfl))
      (dss_cons (ds_if (PW.pt (dw_and (dt_val (de_var 3)) (dw_and1 (dt_eq hr (de_var 5) de_int)))) (dss_cons (ds_set 6 (de_add de_int (de_call G__law_draw hr hgd (by rfl) T.g__law_draw T.F__law_draw.kp T.b__law_draw (da_cons (de_var 0) (da_cons de_int da_nil)))) sc__law_new_row.nd rfl (.inr rfl))
      (dss_cons (ds_setLc 7 rfl sc__law_new_row.nd rfl rfl (sw_true rfl rfl rfl (by decide +kernel)) (di_seq (de_var 4)) (blkOk_by (own := [("_law_n", 13)]) (N := N__law_new_row) (sc := defScope s__law_new_row) (by decide +kernel)) (fun _ _ _ _ _ => (dg_nm 13 sc__law_new_row.nd rfl (.inl rfl))) (fun _ _ _ _ _ => (dts_one (PW.pt (dw_or (dt_eq hr (de_ge (de_ix (de_ix (de_var 1) (de_var 13)) de_int) (de_var 6)) (de_eq hr (de_ix (de_ix (de_var 1) (de_var 13)) de_int) de_str)) (dw_or1 (dt_eq hr (de_ix (de_ix (de_var 1) (de_var 13)) de_int) (de_var 6))))))) (fun _ _ _ _ _ => (de_var 13)))
      (dss_cons (ds_setLc 8 rfl sc__law_new_row.nd rfl rfl (sw_true rfl rfl rfl (by decide +kernel)) (di_seq (de_slice3 (de_var 7) (do_some (de_call G__law_draw hr hgd (by rfl) T.g__law_draw T.F__law_draw.kp T.b__law_draw (da_cons (de_var 0) (da_cons de_int da_nil)))) do_none (do_some de_int))) (blkOk_by (own := [("_law_n", 13)]) (N := N__law_new_row) (sc := defScope s__law_new_row) (by decide +kernel)) (fun _ _ _ _ _ => (dg_nm 13 sc__law_new_row.nd rfl (.inl rfl))) (fun _ _ _ _ _ => dts_nil) (fun _ _ _ _ _ => (de_tup (da_cons (de_var 13) (da_cons (de_add de_int (de_call G__law_draw hr hgd (by rfl) T.g__law_draw T.F__law_draw.kp T.b__law_draw (da_cons (de_var 0) (da_cons (de_call G__law_rest hr hgd (by rfl) T.g__law_rest T.F__law_rest.kp T.b__law_rest (da_cons (de_var 1) (da_cons (de_var 13) (da_cons (de_var 2) (da_cons de_int da_nil))))) da_nil)))) da_nil)))))
      (dss_one (ds_ret (de_ifExp (PW.pt (dw_or (dt_ne hr (de_var 8) (de_lst da_nil)) (dw_or1 (dt_eq hr (de_call G__law_draw hr hgd (by rfl) T.g__law_draw T.F__law_draw.kp T.b__law_draw (da_cons (de_var 0) (da_cons de_int da_nil))) de_int)))) (de_tup (da_cons de_str (da_cons (de_var 6) (da_cons (de_tupleOf (by rfl) T.n_tuple (da_cons (de_var 8) da_nil)) da_nil)))) (de_tup (da_cons de_str (da_cons de_non (da_cons (de_tup da_nil) da_nil)))))))))) dss_nil)
      (dss_cons (ds_if (PW.pt (dw_and (dt_eq hr (de_var 5) de_int) (dw_and1 (dt_ne hr (de_var 4) (de_lst da_nil))))) (dss_one (ds_ret (de_tup (da_cons de_str (da_cons (de_ix (de_var 4) (de_call G__law_draw hr hgd (by rfl) T.g__law_draw T.F__law_draw.kp T.b__law_draw (da_cons (de_var 0) (da_cons (de_len (by rfl) T.n_len (da_cons (de_var 4) da_nil)) da_nil)))) da_nil))))) dss_nil)
      (dss_cons (ds_if (dt_gt (de_var 5) de_int) (dss_one (ds_ret (de_tup (da_cons de_str (da_cons (de_ifExp (dt_val (de_var 3)) (de_tup da_nil) (de_call G__law_new_fills hr hgd (by rfl) T.g__law_new_fills T.F__law_new_fills.kp T.b__law_new_fills (da_cons (de_var 0) (da_cons (de_var 1) (da_cons de_int (da_cons de_int (da_cons de_non (da_cons de_int da_nil)))))))) da_nil))))) dss_nil)
      (dss_cons (ds_asg (de_tup (da_cons (de_ix (de_lst (da_cons de_str (da_cons de_str da_nil))) (de_call G__law_draw hr hgd (by rfl) T.g__law_draw T.F__law_draw.kp T.b__law_draw (da_cons (de_var 0) (da_cons de_int da_nil)))) (da_cons (de_add de_int (de_call G__law_draw hr hgd (by rfl) T.g__law_draw T.F__law_draw.kp T.b__law_draw (da_cons (de_var 0) (da_cons de_int da_nil)))) da_nil))) (dg_tp rfl (dgs_cons (dg_nm 9 sc__law_new_row.nd rfl (.inl rfl)) (dgs_cons (dg_nm 6 sc__law_new_row.nd rfl (.inr rfl)) dgs_nil))))
      (dss_cons (ds_par 10 11 rfl sc__law_new_row.nd rfl rfl (by decide) rfl rfl (da_cons (de_add de_int (de_call G__law_draw hr hgd (by rfl) T.g__law_draw T.F__law_draw.kp T.b__law_draw (da_cons (de_var 0) (da_cons de_int da_nil)))) (da_cons (de_ix (de_lst (da_cons de_str (da_cons de_str (da_cons de_str da_nil)))) (de_call G__law_draw hr hgd (by rfl) T.g__law_draw T.F__law_draw.kp T.b__law_draw (da_cons (de_var 0) (da_cons de_int da_nil)))) da_nil)) (by rfl))
      (dss_cons (ds_set 12 (de_ifExp (dt_val (de_var 3)) (de_tup da_nil) (de_call G__law_new_fills hr hgd (by rfl) T.g__law_new_fills T.F__law_new_fills.kp T.b__law_new_fills (da_cons (de_var 0) (da_cons (de_var 1) (da_cons de_int (da_cons (de_var 10) (da_cons (de_var 9) (da_cons (de_var 6) da_nil)))))))) sc__law_new_row.nd rfl (.inl rfl))
      (dss_one (ds_ret (de_tup (da_cons de_str (da_cons (de_var 11) (da_cons (de_var 9) (da_cons (de_var 6) (da_cons (de_var 10) (da_cons (de_var 12) da_nil)))))))))))))))))).settled

theorem ok__law_random_rows (T : Txt K mg) : FG P w K mg base 6 T.f__law_random_rows T.fd__law_random_rows ["_law_reader_here", "_law_most"] F__law_random_rows := by
  have G__law_draw := (ok__law_draw (P := P) (w := w) (base := base) T).mono (by decide : 1 ≤ 5)
  have G__law_new_row := (ok__law_new_row (P := P) (w := w) (base := base) T).mono (by decide : 5 ≤ 5)
  exact (fg_of T.F__law_random_rows sc__law_random_rows fun cdv A outer s H hr hgd => (dss_cons (ds_set 2 (de_ifExp (dt_eq hr (de_call G__law_draw hr hgd (by rfl) T.g__law_draw T.F__law_draw.kp T.b__law_draw (da_cons (de_var 0) (da_cons de_int da_nil))) de_int) (de_new (da_cons (de_tup (da_cons de_str da_nil)) da_nil)) (de_new da_nil)) sc__law_random_rows.nd rfl (.inl rfl))
      (dss_cons (ds_for PassesOwn.never rfl (di_rng1 (by rfl) T.n_range (da_cons (de_call G__law_draw hr hgd (by rfl) T.g__law_draw T.F__law_draw.kp T.b__law_draw (da_cons (de_var 0) (da_cons (de_add (de_var 1) de_int) da_nil))) da_nil)) (dg_nm 3 sc__law_random_rows.nd rfl (.inl rfl)) (dss_one (ds_expr (de_append (de_var 2) (da_cons (de_call G__law_new_row hr hgd (by rfl) T.g__law_new_row T.F__law_new_row.kp T.b__law_new_row (da_cons (de_var 0) (da_cons (de_var 2) da_nil))) da_nil)))))
      (dss_one (ds_ret (de_var 2)))))).settled

theorem ok__law_random_record (T : Txt K mg) : FG P w K mg base 7 T.f__law_random_record T.fd__law_random_record ["_law_reader_here", "_law_most"] F__law_random_record := by
  have G__law_draw := (ok__law_draw (P := P) (w := w) (base := base) T).mono (by decide : 1 ≤ 6)
  have G__law_random_rows := (ok__law_random_rows (P := P) (w := w) (base := base) T).mono (by decide : 6 ≤ 6)
  exact (fg_of T.F__law_random_record sc__law_random_record fun cdv A outer s H hr hgd => (dss_one (ds_ret (de_tup (da_cons (de_ix (de_lst (da_cons de_str (da_cons de_str (da_cons de_str da_nil)))) (de_call G__law_draw hr hgd (by rfl) T.g__law_draw T.F__law_draw.kp T.b__law_draw (da_cons (de_var 0) (da_cons de_int da_nil)))) (da_cons (de_tupleOf (by rfl) T.n_tuple (da_cons (de_call G__law_random_rows hr hgd (by rfl) T.g__law_random_rows T.F__law_random_rows.kp T.b__law_random_rows (da_cons (de_var 0) (da_cons (de_var 1) da_nil))) da_nil)) da_nil)))))).settled

theorem ok__law_fixed_records (T : Txt K mg) : FG P w K mg base 1 T.f__law_fixed_records T.fd__law_fixed_records [] F__law_fixed_records := by
  exact fg_of T.F__law_fixed_records sc__law_fixed_records fun cdv A outer s H hr hgd => (dss_cons (ds_set 0 (de_tup (da_cons (de_tup (da_cons de_str (da_cons de_str (da_cons de_str (da_cons de_int (da_cons de_int (da_cons (de_tup da_nil) da_nil))))))) (da_cons (de_tup (da_cons de_str (da_cons de_str (da_cons de_str (da_cons de_int (da_cons de_int (da_cons (de_tup da_nil) da_nil))))))) da_nil))) sc__law_fixed_records.nd rfl (.inl rfl))
      (dss_cons (ds_set 0 (de_add (de_var 0) (de_tup (da_cons (de_tup (da_cons de_str (da_cons (de_tup (da_cons (de_tup (da_cons de_int (da_cons de_int (da_cons de_non da_nil)))) (da_cons (de_tup (da_cons de_int (da_cons de_int (da_cons de_int da_nil)))) da_nil))) da_nil))) (da_cons (de_tup (da_cons de_str (da_cons (de_tup (da_cons (de_tup (da_cons de_int (da_cons de_int (da_cons de_non da_nil)))) da_nil)) da_nil))) da_nil)))) sc__law_fixed_records.nd rfl (.inl rfl))
      (dss_cons (ds_set 1 (de_tup (da_cons (de_tup (da_cons de_str da_nil)) (da_cons (de_tup (da_cons de_str (da_cons de_str (da_cons de_str (da_cons de_int (da_cons de_int (da_cons (de_tup da_nil) da_nil))))))) (da_cons (de_tup (da_cons de_str (da_cons de_str (da_cons de_str (da_cons de_int (da_cons de_int (da_cons (de_tup da_nil) da_nil))))))) (da_cons (de_tup (da_cons de_str (da_cons (de_tup da_nil) da_nil))) da_nil))))) sc__law_fixed_records.nd rfl (.inl rfl))
      (dss_cons (ds_set 1 (de_add (de_var 1) (de_tup (da_cons (de_tup (da_cons de_str (da_cons de_str (da_cons de_str (da_cons de_int (da_cons de_int (da_cons (de_tup da_nil) da_nil))))))) (da_cons (de_tup (da_cons de_str (da_cons de_int (da_cons (de_tup (da_cons (de_tup (da_cons de_int (da_cons de_int da_nil))) (da_cons (de_tup (da_cons de_int (da_cons de_int da_nil))) da_nil))) da_nil)))) (da_cons (de_tup (da_cons de_str (da_cons de_int da_nil))) da_nil))))) sc__law_fixed_records.nd rfl (.inl rfl))
      (dss_cons (ds_set 1 (de_add (de_var 1) (de_tup (da_cons (de_tup (da_cons de_str (da_cons (de_tup (da_cons (de_tup (da_cons de_int (da_cons de_int (da_cons de_int da_nil)))) (da_cons (de_tup (da_cons de_int (da_cons de_int (da_cons de_non da_nil)))) da_nil))) da_nil))) da_nil))) sc__law_fixed_records.nd rfl (.inl rfl))
      (dss_cons (ds_set 2 (de_tup (da_cons (de_tup (da_cons de_str (da_cons de_str (da_cons de_str (da_cons de_int (da_cons de_int (da_cons (de_tup da_nil) da_nil))))))) (da_cons (de_tup (da_cons de_str (da_cons de_str (da_cons de_str (da_cons de_int (da_cons de_int (da_cons (de_tup (da_cons (de_tup (da_cons de_int (da_cons de_int (da_cons de_non da_nil)))) (da_cons (de_tup (da_cons de_int (da_cons de_int (da_cons de_int da_nil)))) da_nil))) da_nil))))))) da_nil))) sc__law_fixed_records.nd rfl (.inl rfl))
      (dss_cons (ds_set 2 (de_add (de_var 2) (de_tup (da_cons (de_tup (da_cons de_str (da_cons de_str (da_cons de_str (da_cons de_int (da_cons de_int (da_cons (de_tup (da_cons (de_tup (da_cons de_int (da_cons de_int (da_cons de_int da_nil)))) da_nil)) da_nil))))))) (da_cons (de_tup (da_cons de_str (da_cons de_int da_nil))) (da_cons (de_tup (da_cons de_str (da_cons (de_tup (da_cons (de_tup (da_cons de_int (da_cons de_int (da_cons de_non da_nil)))) da_nil)) da_nil))) da_nil))))) sc__law_fixed_records.nd rfl (.inl rfl))
      (dss_one (ds_ret (de_new (da_cons (de_tup (da_cons de_str (da_cons (de_var 0) da_nil))) (da_cons (de_tup (da_cons de_str (da_cons (de_var 1) da_nil))) (da_cons (de_tup (da_cons de_str (da_cons (de_var 2) da_nil))) (da_cons (de_tup (da_cons de_str (da_cons (de_tup da_nil) da_nil))) (da_cons (de_tup (da_cons de_str (da_cons (de_tup (da_cons (de_tup (da_cons de_str da_nil)) da_nil)) da_nil))) da_nil)))))))))))))))

theorem ok__law_fill_word (T : Txt K mg) : FG P w K mg base 1 T.f__law_fill_word T.fd__law_fill_word ["_law_fill"] F__law_fill_word := by
  exact (fg_of T.F__law_fill_word sc__law_fill_word fun cdv A outer s H hr hgd => (dss_one (ds_ret (de_add (de_add (de_add (de_add (de_strOf (by rfl) T.n_str (da_cons (de_ix (de_var 0) de_int) da_nil)) de_str) (de_strOf (by rfl) T.n_str (da_cons (de_ix (de_var 0) de_int) da_nil))) de_str) (de_ifExp (dt_isN (de_ix (de_var 0) de_int) de_non) de_str (de_strOf (by rfl) T.n_str (da_cons (de_ix (de_var 0) de_int) da_nil))))))).settled

theorem ok__law_row_words (T : Txt K mg) : FG P w K mg base 2 T.f__law_row_words T.fd__law_row_words ["_law_row"] F__law_row_words := by
  have G__law_fill_word := (ok__law_fill_word (P := P) (w := w) (base := base) T).mono (by decide : 1 ≤ 1)
  have G__law_fills := (ok__law_fills (P := P) (w := w) (base := base) T).mono (by decide : 1 ≤ 1)
  exact (fg_of T.F__law_row_words sc__law_row_words fun cdv A outer s H hr hgd => (dss_cons (ds_setLc 1 rfl sc__law_row_words.nd rfl rfl (sw_true rfl rfl rfl (by decide +kernel)) (di_seq (de_call G__law_fills hr hgd (by rfl) T.g__law_fills T.F__law_fills.kp T.b__law_fills (da_cons (de_var 0) da_nil))) (blkOk_by (own := [("_law_fill", 3)]) (N := N__law_row_words) (sc := defScope s__law_row_words) (by decide +kernel)) (fun _ _ _ _ _ => (dg_nm 3 sc__law_row_words.nd rfl (.inl rfl))) (fun _ _ _ _ _ => dts_nil) (fun _ _ _ _ _ => (de_call G__law_fill_word hr hgd (by rfl) T.g__law_fill_word T.F__law_fill_word.kp T.b__law_fill_word (da_cons (de_var 3) da_nil))))
      (dss_cons (ds_if (dt_eq hr (de_ix (de_var 0) de_int) de_str) (dss_one (ds_ret (de_add (de_lst (da_cons de_str (da_cons (de_ix (de_var 0) de_int) (da_cons (de_ix (de_var 0) de_int) (da_cons (de_strOf (by rfl) T.n_str (da_cons (de_ix (de_var 0) de_int) da_nil)) (da_cons (de_strOf (by rfl) T.n_str (da_cons (de_ix (de_var 0) de_int) da_nil)) da_nil)))))) (de_var 1)))) dss_nil)
      (dss_cons (ds_if (dt_eq hr (de_ix (de_var 0) de_int) de_str) (dss_cons (ds_set 2 (de_ifExp (dt_isN (de_ix (de_var 0) de_int) de_non) de_str (de_strOf (by rfl) T.n_str (da_cons (de_ix (de_var 0) de_int) da_nil))) sc__law_row_words.nd rfl (.inl rfl))
      (dss_one (ds_ret (de_add (de_lst (da_cons de_str (da_cons (de_var 2) da_nil))) (de_lc rfl sc__law_row_words.nd (di_seq (de_ix (de_var 0) de_int)) (blkOk_by (own := [("_law_n", 4), ("_law_size", 5)]) (N := N__law_row_words) (sc := defScope s__law_row_words) (by decide +kernel)) (fun _ _ _ _ _ => (dg_tp rfl (dgs_cons (dg_nm 4 sc__law_row_words.nd rfl (.inl rfl)) (dgs_cons (dg_nm 5 sc__law_row_words.nd rfl (.inl rfl)) dgs_nil)))) (fun _ _ _ _ _ => dts_nil) (fun _ _ _ _ _ => (de_add (de_add (de_strOf (by rfl) T.n_str (da_cons (de_var 5) da_nil)) de_str) (de_strOf (by rfl) T.n_str (da_cons (de_var 4) da_nil))))))))) dss_nil)
      (dss_one (ds_ret (de_add (de_lst (da_cons (de_ix (de_var 0) de_int) da_nil)) (de_ifExp (dt_eq hr (de_ix (de_var 0) de_int) de_str) (de_lst (da_cons (de_strOf (by rfl) T.n_str (da_cons (de_ix (de_var 0) de_int) da_nil)) da_nil)) (de_var 1))))))))).settled

theorem ok__law_page (T : Txt K mg) : FG P w K mg base 3 T.f__law_page T.fd__law_page ["_law_good"] F__law_page := by
  have G__law_row_words := (ok__law_row_words (P := P) (w := w) (base := base) T).mono (by decide : 2 ≤ 2)
  exact (fg_of T.F__law_page sc__law_page fun cdv A outer s H hr hgd => (dss_one (ds_ret (de_join de_str (da_cons (de_add (de_lst (da_cons (de_add de_str (de_ix (de_var 0) de_int)) da_nil)) (de_lc rfl sc__law_page.nd (di_seq (de_ix (de_var 0) de_int)) (blkOk_by (own := [("_law_row", 1)]) (N := N__law_page) (sc := defScope s__law_page) (by decide +kernel)) (fun _ _ _ _ _ => (dg_nm 1 sc__law_page.nd rfl (.inl rfl))) (fun _ _ _ _ _ => dts_nil) (fun _ _ _ _ _ => (de_join de_str (da_cons (de_call G__law_row_words hr hgd (by rfl) T.g__law_row_words T.F__law_row_words.kp T.b__law_row_words (da_cons (de_var 1) da_nil)) da_nil))))) da_nil))))).settled

theorem ok__law_loose_row (T : Txt K mg) : FG P w K mg base 2 T.f__law_loose_row T.fd__law_loose_row ["_law_reader_here"] F__law_loose_row := by
  have G__law_draw := (ok__law_draw (P := P) (w := w) (base := base) T).mono (by decide : 1 ≤ 1)
  exact (fg_of T.F__law_loose_row sc__law_loose_row fun cdv A outer s H hr hgd => (dss_cons (ds_set 1 (de_lst (da_cons de_int (da_cons de_int (da_cons de_int (da_cons de_int (da_cons (de_pow de_int de_int) (da_cons de_int da_nil))))))) sc__law_loose_row.nd rfl (.inr rfl))
      (dss_cons (ds_set 2 (de_new da_nil) sc__law_loose_row.nd rfl (.inl rfl))
      (dss_cons (ds_for PassesOwn.never rfl (di_rng1 (by rfl) T.n_range (da_cons (de_call G__law_draw hr hgd (by rfl) T.g__law_draw T.F__law_draw.kp T.b__law_draw (da_cons (de_var 0) (da_cons de_int da_nil))) da_nil)) (dg_nm 3 sc__law_loose_row.nd rfl (.inl rfl)) (dss_cons (ds_set 4 (de_ix (de_lst (da_cons de_non (da_cons de_int (da_cons de_int (da_cons (de_pow de_int de_int) da_nil))))) (de_call G__law_draw hr hgd (by rfl) T.g__law_draw T.F__law_draw.kp T.b__law_draw (da_cons (de_var 0) (da_cons de_int da_nil)))) sc__law_loose_row.nd rfl (.inl rfl))
      (dss_one (ds_expr (de_append (de_var 2) (da_cons (de_tup (da_cons (de_ix (de_var 1) (de_call G__law_draw hr hgd (by rfl) T.g__law_draw T.F__law_draw.kp T.b__law_draw (da_cons (de_var 0) (da_cons de_int da_nil)))) (da_cons (de_ix (de_var 1) (de_call G__law_draw hr hgd (by rfl) T.g__law_draw T.F__law_draw.kp T.b__law_draw (da_cons (de_var 0) (da_cons de_int da_nil)))) (da_cons (de_var 4) da_nil)))) da_nil))))))
      (dss_cons (ds_setLc 5 rfl sc__law_loose_row.nd rfl rfl (sw_true rfl rfl rfl (by decide +kernel)) (di_seq (de_slice (de_lst (da_cons de_int (da_cons de_int (da_cons de_int (da_cons de_int (da_cons (de_pow de_int de_int) da_nil)))))) (do_some (de_call G__law_draw hr hgd (by rfl) T.g__law_draw T.F__law_draw.kp T.b__law_draw (da_cons (de_var 0) (da_cons de_int da_nil)))) do_none)) (blkOk_by (own := [("_law_n", 4)]) (N := N__law_loose_row) (sc := defScope s__law_loose_row) (by decide +kernel)) (fun _ _ _ _ _ => (dg_nm 4 sc__law_loose_row.nd rfl (.inl rfl))) (fun _ _ _ _ _ => dts_nil) (fun _ _ _ _ _ => (de_tup (da_cons (de_var 4) (da_cons (de_ix (de_var 1) (de_call G__law_draw hr hgd (by rfl) T.g__law_draw T.F__law_draw.kp T.b__law_draw (da_cons (de_var 0) (da_cons de_int da_nil)))) da_nil)))))
      (dss_cons (ds_par 6 7 rfl sc__law_loose_row.nd rfl rfl (by decide) rfl rfl (da_cons (de_ix (de_lst (da_cons de_str (da_cons de_str (da_cons de_str da_nil)))) (de_call G__law_draw hr hgd (by rfl) T.g__law_draw T.F__law_draw.kp T.b__law_draw (da_cons (de_var 0) (da_cons de_int da_nil)))) (da_cons (de_ix (de_lst (da_cons de_str (da_cons de_str da_nil))) (de_call G__law_draw hr hgd (by rfl) T.g__law_draw T.F__law_draw.kp T.b__law_draw (da_cons (de_var 0) (da_cons de_int da_nil)))) da_nil)) (by rfl))
      (dss_cons (ds_set 8 (de_lst (da_cons (de_tup (da_cons de_str (da_cons (de_var 6) (da_cons (de_var 7) (da_cons (de_ix (de_var 1) (de_call G__law_draw hr hgd (by rfl) T.g__law_draw T.F__law_draw.kp T.b__law_draw (da_cons (de_var 0) (da_cons de_int da_nil)))) (da_cons (de_ix (de_var 1) (de_call G__law_draw hr hgd (by rfl) T.g__law_draw T.F__law_draw.kp T.b__law_draw (da_cons (de_var 0) (da_cons de_int da_nil)))) (da_cons (de_tupleOf (by rfl) T.n_tuple (da_cons (de_var 2) da_nil)) da_nil))))))) da_nil)) sc__law_loose_row.nd rfl (.inl rfl))
      (dss_cons (ds_set 8 (de_add (de_var 8) (de_lst (da_cons (de_tup (da_cons de_str (da_cons (de_tupleOf (by rfl) T.n_tuple (da_cons (de_var 2) da_nil)) da_nil))) (da_cons (de_tup (da_cons de_str (da_cons (de_ix (de_lst (da_cons de_int (da_cons de_int (da_cons (de_pow de_int de_int) da_nil)))) (de_call G__law_draw hr hgd (by rfl) T.g__law_draw T.F__law_draw.kp T.b__law_draw (da_cons (de_var 0) (da_cons de_int da_nil)))) da_nil))) (da_cons (de_tup (da_cons de_str da_nil)) da_nil))))) sc__law_loose_row.nd rfl (.inl rfl))
      (dss_one (ds_ret (de_ix (de_add (de_var 8) (de_lst (da_cons (de_tup (da_cons de_str (da_cons (de_ix (de_var 1) (de_call G__law_draw hr hgd (by rfl) T.g__law_draw T.F__law_draw.kp T.b__law_draw (da_cons (de_var 0) (da_cons de_int da_nil)))) (da_cons (de_tupleOf (by rfl) T.n_tuple (da_cons (de_var 5) da_nil)) da_nil)))) (da_cons (de_tup (da_cons de_str (da_cons de_non (da_cons (de_tup da_nil) da_nil)))) da_nil)))) (de_call G__law_draw hr hgd (by rfl) T.g__law_draw T.F__law_draw.kp T.b__law_draw (da_cons (de_var 0) (da_cons de_int da_nil)))))))))))))).settled

theorem ok_law (T : Txt K mg) : FG P w K mg base 8 T.f_law T.fd_law ["_law_script"] F_law := by
  have G__law_draw := (ok__law_draw (P := P) (w := w) (base := base) T).mono (by decide : 1 ≤ 7)
  have G__law_fixed_records := (ok__law_fixed_records (P := P) (w := w) (base := base) T).mono (by decide : 1 ≤ 7)
  have G__law_loose_row := (ok__law_loose_row (P := P) (w := w) (base := base) T).mono (by decide : 2 ≤ 7)
  have G__law_page := (ok__law_page (P := P) (w := w) (base := base) T).mono (by decide : 3 ≤ 7)
  have G__law_random_record := (ok__law_random_record (P := P) (w := w) (base := base) T).mono (by decide : 7 ≤ 7)
  have G__law_reader := (ok__law_reader (P := P) (w := w) (base := base) T).mono (by decide : 1 ≤ 7)
  have G__law_row_words := (ok__law_row_words (P := P) (w := w) (base := base) T).mono (by decide : 2 ≤ 7)
  have G_record_text := (ok_record_text (P := P) (w := w) (base := base) T).mono (by decide : 5 ≤ 7)
  have G_row_text := (ok_row_text (P := P) (w := w) (base := base) T).mono (by decide : 4 ≤ 7)
  exact (fg_of T.F_law sc_law fun cdv A outer s H hr hgd => (dss_cons (ds_set 1 (de_call G__law_reader hr hgd (by rfl) T.g__law_reader T.F__law_reader.kp T.b__law_reader (da_cons (de_var 0) da_nil)) sc_law.nd rfl (.inr rfl))
      (dss_cons (ds_set 2 (de_call0 G__law_fixed_records hr hgd (by rfl) T.g__law_fixed_records T.F__law_fixed_records.kp T.b__law_fixed_records) sc_law.nd rfl (.inl rfl))
      (dss_cons (ds_for PassesOwn.never rfl (di_rng1 (by rfl) T.n_range (da_cons de_int da_nil)) (dg_nm 3 sc_law.nd rfl (.inl rfl)) (dss_cons (ds_expr (de_append (de_var 2) (da_cons (de_call G__law_random_record hr hgd (by rfl) T.g__law_random_record T.F__law_random_record.kp T.b__law_random_record (da_cons (de_var 1) (da_cons de_int da_nil))) da_nil)))
      (dss_one (ds_expr (de_append (de_var 2) (da_cons (de_tup (da_cons de_str (da_cons (de_tupleOf (by rfl) T.n_tuple (da_cons (de_lc rfl sc_law.nd (di_rng1 (by rfl) T.n_range (da_cons (de_call G__law_draw hr hgd (by rfl) T.g__law_draw T.F__law_draw.kp T.b__law_draw (da_cons (de_var 1) (da_cons de_int da_nil))) da_nil)) (blkOk_by (own := [("_law_k", 7)]) (N := N_law) (sc := defScope s_law) (by decide +kernel)) (fun _ _ _ _ _ => (dg_nm 7 sc_law.nd rfl (.inl rfl))) (fun _ _ _ _ _ => dts_nil) (fun _ _ _ _ _ => (de_call G__law_loose_row hr hgd (by rfl) T.g__law_loose_row T.F__law_loose_row.kp T.b__law_loose_row (da_cons (de_var 1) da_nil)))) da_nil)) da_nil))) da_nil))))))
      (dss_cons (ds_expr (de_append (de_var 2) (da_cons (de_tup (da_cons de_str (da_cons (de_rep (de_tup (da_cons (de_tup (da_cons de_str (da_cons (de_tup (da_cons (de_tup (da_cons de_int (da_cons de_int (da_cons de_non da_nil)))) (da_cons (de_tup (da_cons de_int (da_cons de_int (da_cons de_int da_nil)))) da_nil))) da_nil))) da_nil)) de_int) da_nil))) da_nil)))
      (dss_cons (ds_for PassesOwn.never rfl (di_seq (de_var 2)) (dg_nm 4 sc_law.nd rfl (.inl rfl)) (dss_cons (ds_set 5 (de_repr hr hgd (by rfl) T.n_repr (da_cons (de_var 4) da_nil)) sc_law.nd rfl (.inl rfl))
      (dss_cons (ds_if (dt_ne hr (de_repr hr hgd (by rfl) T.n_repr (da_cons (de_call G_record_text hr hgd (by rfl) T.g_record_text T.F_record_text.kp T.b_record_text (da_cons (de_var 4) da_nil)) da_nil)) (de_repr hr hgd (by rfl) T.n_repr (da_cons (de_call G__law_page hr hgd (by rfl) T.g__law_page T.F__law_page.kp T.b__law_page (da_cons (de_var 4) da_nil)) da_nil))) (dss_one (ds_ret de_bl)) dss_nil)
      (dss_cons (ds_for PassesOwn.never rfl (di_seq (de_ix (de_var 4) de_int)) (dg_nm 6 sc_law.nd rfl (.inl rfl)) (dss_one (ds_if (dt_ne hr (de_repr hr hgd (by rfl) T.n_repr (da_cons (de_call G_row_text hr hgd (by rfl) T.g_row_text T.F_row_text.kp T.b_row_text (da_cons (de_var 6) da_nil)) da_nil)) (de_repr hr hgd (by rfl) T.n_repr (da_cons (de_join de_str (da_cons (de_call G__law_row_words hr hgd (by rfl) T.g__law_row_words T.F__law_row_words.kp T.b__law_row_words (da_cons (de_var 6) da_nil)) da_nil)) da_nil))) (dss_one (ds_ret de_bl)) dss_nil)))
      (dss_one (ds_if (dt_ne hr (de_repr hr hgd (by rfl) T.n_repr (da_cons (de_var 4) da_nil)) (de_var 5)) (dss_one (ds_ret de_bl)) dss_nil))))))
      (dss_one (ds_ret de_bl)))))))).settled

end
end K8
set_option Elab.async false
set_option linter.all false
set_option maxRecDepth 100000
set_option maxHeartbeats 4000000
namespace K8
open PySem PySem.Spec PyProof.Rows L2 FS Gn
local macro_rules | `(tactic| walk_at "ev") => `(tactic| simp only [runFn, cSeq, cSet, cIfS, cRet, cRetN, cNx, cDrop, cVar, cC, cBin, cTest, cAndT, cOrT, cNotT, cAnd, cOr, cNot, cIf, cNil, cCons, cTup, cLst, cNew, cCall, cOp, cStar, cFmt, cJoined, cJs, cMeth, cSl, cP, cNoP, cPar, cAsg, cMatch, cCase, cLc, cFor, sSeq, cYes, wipeR, setAll, tGs.setAll, gTp, gNm,
  List.length_cons, List.length_nil, List.map_cons, List.map_nil, List.append_nil, List.cons_append, List.nil_append, List.replicate, List.getElem?_cons_zero, List.getElem?_cons_succ, List.set_cons_zero, List.set_cons_succ, Nat.reduceAdd, Nat.reduceSub, ite_true, ite_false, if_true, if_false, List.singleton_append, ix0, ix1, ix2, ix3, ix4, ix5])

def OSm (o : Option Int) : Prop := ∀ i, o = some i → Sm i
def num (i : Int) : Str := toString i
theorem num_len {i : Int} (h : Sm i) : (num i).length ≤ 201 := by
  show (Str.ofString (toString i)).length ≤ 201
  rw [PySem.ofString_length]
  exact PySem.int_text_length_le (k := 200) (by decide) h
def oW : Option Int → Str
  | none => "-"
  | some i => num i
theorem oW_len {o : Option Int} (h : OSm o) : (oW o).length ≤ 201 := by
  cases o with
  | none => decide +kernel
  | some i => exact num_len (h i rfl)
theorem run_order_word {o : Option Int} {S : Sto} (c : Clo S) (h : OSm o) : F_order_word [oD o] S = some (.str (oW o), S) := by
  refine settled_same ?_ c rfl
  cases o with
  | none => rfl
  | some i =>
    have hi : Sm i := h i rfl
    unfold b_order_word oD
    walk_at "ev"
    simp only [isO, strOne, if_pos (show i.natAbs.log2 < 1920 from hi.wide)]
    rfl

theorem str_empty (x : Str) : Str.empty ++ x = x := Str.append_left_empty rfl
def fillW (f : Fill) : Str := num f.p ++ "*" ++ num f.z ++ "@" ++ oW f.n
theorem len1 : (Str.ofString "*").length = 1 := by decide +kernel
theorem len2 : (Str.ofString "@").length = 1 := by decide +kernel
theorem fillW_len {f : Fill} (h : FOk f) : (fillW f).length ≤ 605 := by
  have h1 := num_len h.p
  have h2 := num_len h.z
  have h3 := oW_len h.n
  unfold fillW
  simp only [Str.length_append, len1, len2]
  omega
theorem closedL_strs {n : Nat} {α : Type} (g : α → Str) (l : List α) : closedL n (l.map fun x => .str (g x)) = true := by
  rw [closedL_iff]
  intro d hd
  obtain ⟨x, _, rfl⟩ := List.mem_map.mp hd
  rfl
theorem run_fill_words {fs : List Fill} {S : Sto} (c : Clo S) (h : ∀ f ∈ fs, FOk f) : F_fill_words [.tup (fs.map Fill.d)] S = some (.lst (fs.map fun f => .str (fillW f)), S) := by
  refine settled_same ?_ c (closedL_strs _ _)
  unfold b_fill_words
  walk_at "ev"
  rw [lcB_map Fill.d (fun f => .str (fillW f)) rfl fs]
  intro f hf
  have ok := h f hf
  have h1 : (Str.ofString (toString f.p)).length ≤ 201 := num_len ok.p
  have h2 : (Str.ofString (toString f.z)).length ≤ 201 := num_len ok.z
  have h3 := oW_len ok.n
  have p1 : f.p.natAbs.log2 < 1920 := (ok.p).wide
  have p2 : f.z.natAbs.log2 < 1920 := (ok.z).wide
  refine ⟨_, rfl, ?_⟩
  walk_at "ev"
  repeat (first | rw [run_order_word c ok.n] | rw [if_pos (by first | assumption | (simp only [str_empty, Str.length_append, len1, len2, sL]; omega))] | walk_at "ev")
  rw [str_empty]
  rfl
def pairW (q : Int × Int) : Str := num q.2 ++ "@" ++ num q.1
def words : Gn.Row → List Str
  | .order m s p z fs => [("order" : Str), m, s, num p, num z] ++ fs.map fillW
  | .prints fs => ("prints" : Str) :: fs.map fillW
  | .call p ps => ("call" : Str) :: oW p :: ps.map pairW
  | .cancel n => [("cancel" : Str), num n]
  | .closed => [("closed" : Str)]
theorem pairW_len {q : Int × Int} (h : Sm q.1 ∧ Sm q.2) : (pairW q).length ≤ 403 := by
  have h1 := num_len h.1
  have h2 := num_len h.2
  unfold pairW
  simp only [Str.length_append, len2]
  omega
theorem map_str {α : Type} (g : α → Str) (l : List α) : (l.map g).map D.str = l.map fun x => .str (g x) := by rw [List.map_map]; rfl
theorem small_le {n : Nat} (h : n ≤ 1000) : n ≤ sizeLine := by rw [sL]; omega
theorem run_row_words {r : Gn.Row} {S : Sto} (c : Clo S) (h : ROk r) : F_row_words [r.d] S = some (.lst ((words r).map D.str), S) := by
  have e0 : closedL S.length ((words r).map D.str) = true := closedL_strs id _
  refine settled_same ?_ c (by simpa [closed] using e0)
  cases h with
  | @order m s p z fs h1 h2 h3 h4 h5 h6 =>
    unfold b_row_words Gn.Row.d words
    have p1 : p.natAbs.log2 < 1920 := (h3).wide
    have p2 : z.natAbs.log2 < 1920 := (h4).wide
    try walk_at "ev"
    simp only [run_fill_words c h5, strOne, if_pos p1, if_pos p2, sqOf, lsOf]
    try walk_at "ev"
    rw [if_pos (small_le (by simp; omega)), ← map_str fillW]
    rfl
  | @prints fs h5 h6 =>
    unfold b_row_words Gn.Row.d words
    try walk_at "ev"
    rw [if_neg (by decide +kernel)]
    try walk_at "ev"
    simp only [run_fill_words c h5, sqOf, lsOf]
    try walk_at "ev"
    rw [if_pos (small_le (by simp; omega)), ← map_str fillW]
  | @call p ps h1 h5 h6 =>
    unfold b_row_words Gn.Row.d words
    try walk_at "ev"
    rw [if_neg (by decide +kernel)]
    try walk_at "ev"
    rw [if_neg (by decide +kernel)]
    try walk_at "ev"
    rw [run_order_word c h1]
    try walk_at "ev"
    rw [lcB_map pD (fun q => .str (pairW q)) rfl ps]
    · try walk_at "ev"
      simp only [sqOf, lsOf]
      try walk_at "ev"
      rw [if_pos (small_le (by simp; omega)), ← map_str pairW]
    · intro q hq
      have ok := h5 q hq
      have l1 : (Str.ofString (toString q.1)).length ≤ 201 := num_len ok.1
      have l2 : (Str.ofString (toString q.2)).length ≤ 201 := num_len ok.2
      have p1 : q.1.natAbs.log2 < 1920 := (ok.1).wide
      have p2 : q.2.natAbs.log2 < 1920 := (ok.2).wide
      refine ⟨_, rfl, ?_⟩
      repeat (first | rw [if_pos (by first | assumption | (simp only [str_empty, Str.length_append, len1, len2, sL]; omega))] | walk_at "ev")
      rw [str_empty]
      rfl
  | @cancel n h =>
    unfold b_row_words Gn.Row.d words
    have p1 : n.natAbs.log2 < 1920 := (h).wide
    try walk_at "ev"
    rw [if_neg (by decide +kernel)]
    try walk_at "ev"
    rw [if_neg (by decide +kernel)]
    try walk_at "ev"
    rw [if_neg (by decide +kernel)]
    try walk_at "ev"
    have e1 : sliceO S (.tup [.str "cancel", .int n]) (some 1) none = some (.tup ([n].map D.int)) := rfl
    simp only [e1]
    try walk_at "ev"
    simp only [lcB]
    try walk_at "ev"
    simp only [strOne, if_pos p1, still, sqOf, lsOf]
    try walk_at "ev"
    rfl
  | closed => rfl
/-! ### rows and records as texts -/
def rowT (r : Gn.Row) : Str := Txt.join " " (words r)
theorem word_len {r : Gn.Row} (h : ROk r) : (words r).length ≤ 45 ∧ ∀ x ∈ words r, x.length ≤ 605 := by
  have w1 : (Str.ofString "order").length ≤ 605 := by decide +kernel
  have w2 : (Str.ofString "prints").length ≤ 605 := by decide +kernel
  have w3 : (Str.ofString "call").length ≤ 605 := by decide +kernel
  have w4 : (Str.ofString "cancel").length ≤ 605 := by decide +kernel
  have w5 : (Str.ofString "closed").length ≤ 605 := by decide +kernel
  cases h with
  | @order m s p z fs h1 h2 h3 h4 h5 h6 =>
    have l1 := num_len h3
    have l2 := num_len h4
    have h1 := h1.2
    have h2 := h2.2
    refine ⟨by simp [words]; omega, fun x hx => ?_⟩
    simp only [words, List.cons_append, List.nil_append, List.mem_cons, List.mem_map] at hx
    rcases hx with rfl | rfl | rfl | rfl | rfl | ⟨f, hf, rfl⟩
    · exact w1
    · omega
    · omega
    · omega
    · omega
    · exact fillW_len (h5 f hf)
  | @prints fs h5 h6 =>
    refine ⟨by simp [words]; omega, fun x hx => ?_⟩
    simp only [words, List.mem_cons, List.mem_map] at hx
    rcases hx with rfl | ⟨f, hf, rfl⟩
    · exact w2
    · exact fillW_len (h5 f hf)
  | @call p ps h1 h5 h6 =>
    have l1 := oW_len h1
    refine ⟨by simp [words]; omega, fun x hx => ?_⟩
    simp only [words, List.mem_cons, List.mem_map] at hx
    rcases hx with rfl | rfl | ⟨q, hq, rfl⟩
    · exact w3
    · omega
    · have := pairW_len (h5 q hq); omega
  | @cancel n h =>
    have l1 := num_len h
    refine ⟨by simp [words], fun x hx => ?_⟩
    simp only [words, List.mem_cons, List.not_mem_nil, or_false] at hx
    rcases hx with rfl | rfl
    · exact w4
    · omega
  | closed =>
    refine ⟨by simp [words], fun x hx => ?_⟩
    simp only [words, List.mem_cons, List.not_mem_nil, or_false] at hx
    rw [hx]; exact w5
theorem sum_le {l : List Str} {k : Nat} (h : ∀ x ∈ l, x.length ≤ k) : (l.map (·.length)).sum ≤ l.length * k := by
  induction l with
  | nil => simp
  | cons x l ih =>
    have h1 := h x List.mem_cons_self
    have h2 := ih fun y hy => h y (List.mem_cons_of_mem _ hy)
    simp only [List.map_cons, List.sum_cons, List.length_cons, Nat.succ_mul]
    omega
theorem joinLen (a : Str) : ∀ l : List Str, (Txt.join a l).length ≤ (l.map (·.length)).sum + l.length * a.length := by
  intro l
  rw [TL.join_eq]
  induction l with
  | nil => simp [Str.join, Str.empty, Str.length]
  | cons x l ih =>
    cases l with
    | nil => simp [Str.join]
    | cons y l =>
      have e : Str.join a (x :: y :: l) = x ++ a ++ Str.join a (y :: l) := rfl
      rw [e, Str.length_append, Str.length_append]
      simp only [List.map_cons, List.sum_cons, List.length_cons, Nat.succ_mul] at ih ⊢
      omega
theorem strsD_map (l : List Str) : strsD (l.map D.str) = some l := by
  induction l with
  | nil => rfl
  | cons x l ih => simp only [List.map_cons, strsD, ih, Option.map]
theorem sp1 : (Str.ofString " ").length = 1 := by decide +kernel
theorem rowT_len {r : Gn.Row} (h : ROk r) : (rowT r).length ≤ 27300 := by
  obtain ⟨h1, h2⟩ := word_len h
  have h3 := sum_le h2
  have h4 := joinLen " " (words r)
  rw [sp1] at h4
  unfold rowT
  have : (words r).length * 605 ≤ 45 * 605 := Nat.mul_le_mul_right _ h1
  omega
theorem joinO_of {S : Sto} {a : Str} {d : D} {l : List Str} (h : sqOf S d = some (l.map D.str)) (hz : (l.map (·.length)).sum + l.length * a.length ≤ 16777216) : joinO S (.str a) [d] = some (.str (Txt.join a l), S) := by
  simp only [joinO, h, strsD_map]
  rw [if_pos hz]
theorem row_fits {r : Gn.Row} (h : ROk r) : ((words r).map (·.length)).sum + (words r).length * (Str.ofString " ").length ≤ 16777216 := by
  obtain ⟨h1, h2⟩ := word_len h
  have h3 := sum_le h2
  have : (words r).length * 605 ≤ 45 * 605 := Nat.mul_le_mul_right _ h1
  rw [sp1]
  omega
theorem run_row_text {r : Gn.Row} {S : Sto} (c : Clo S) (h : ROk r) : F_row_text [r.d] S = some (.str (rowT r), S) := by
  refine settled_same ?_ c rfl
  unfold b_row_text
  try walk_at "ev"
  rw [run_row_words c h]
  have e := joinO_of (S := S) (a := " ") (d := .lst ((words r).map D.str)) rfl (row_fits h)
  simp only [isS, e]
  rfl
/-- the text of a record -/
structure RecOk (g : Rec) : Prop where
  rule : Wd g.rule
  rows : ∀ r ∈ g.rows, ROk r
  few : g.rows.length ≤ 31
def recL (g : Rec) : List Str := (("record " : Str) ++ g.rule) :: g.rows.map rowT
def recT (g : Rec) : Str := Txt.join "\n" (recL g)
theorem nl1 : (Str.ofString "\n").length = 1 := by decide +kernel
theorem rc7 : (Str.ofString "record ").length = 7 := by decide +kernel
theorem rec_fits {g : Rec} (h : RecOk g) : ((recL g).map (·.length)).sum + (recL g).length * (Str.ofString "\n").length ≤ 16777216 := by
  have h1 : ∀ x ∈ recL g, x.length ≤ 27300 := by
    intro x hx
    unfold recL at hx
    rcases List.mem_cons.mp hx with rfl | hx
    · have := h.rule
      unfold Wd at this
      rw [Str.length_append, rc7]
      omega
    · obtain ⟨r, hr, rfl⟩ := List.mem_map.mp hx
      exact rowT_len (h.rows r hr)
  have h2 := sum_le h1
  have h3 : (recL g).length ≤ 32 := by unfold recL; simp; exact h.few
  have : (recL g).length * 27300 ≤ 32 * 27300 := Nat.mul_le_mul_right _ h3
  rw [nl1]
  omega
theorem run_record_text {g : Rec} {S : Sto} (c : Clo S) (h : RecOk g) : F_record_text [g.d] S = some (.str (recT g), S) := by
  refine settled_same ?_ c rfl
  have hr := h.rule.2
  unfold b_record_text Rec.d
  try walk_at "ev"
  have e0 : lcB (gNm 3) cYes (cCall F_row_text [] (cCons (cVar 3) cNil)) (still (List.map Gn.Row.d g.rows) none) [some (D.tup [D.str g.rule, D.tup (List.map Gn.Row.d g.rows)]), some (D.str g.rule), some (D.tup (List.map Gn.Row.d g.rows)), none] (List.map Gn.Row.d g.rows) S = some (g.rows.map fun r => .str (rowT r), S) := by
    rw [lcB_map Gn.Row.d (fun r => .str (rowT r)) rfl g.rows]
    intro r hr
    refine ⟨_, rfl, ?_⟩
    try walk_at "ev"
    exact run_row_text c (h.rows r hr)
  simp only [isS]
  repeat (first | rw [e0] | rw [if_pos (by first | assumption | (simp only [str_empty, Str.length_append, rc7, sL]; omega))] | walk_at "ev")
  simp only [sqOf, lsOf]
  try walk_at "ev"
  rw [if_pos (small_le (by have := h.few; simp; omega))]
  have e := joinO_of (S := S) (a := "\n") (d := .lst (D.str (Str.empty ++ Str.ofString "record " ++ g.rule) :: g.rows.map fun r => .str (rowT r))) (l := recL g) (by rw [str_empty]; simp only [sqOf, lsOf, recL, List.map_cons, List.map_map]; rfl) (rec_fits h)
  try walk_at "ev"
  rw [e]
  rfl
end K8
set_option Elab.async false
set_option linter.all false
set_option maxRecDepth 100000
set_option maxHeartbeats 8000000
namespace K8
open PySem PySem.Spec PyProof.Rows L2 FS Gn
local macro_rules | `(tactic| walk_at "w") => `(tactic| first | (with_reducible refine w_seq ?_) | (with_reducible refine w_set ?_) | (with_reducible refine w_ret ?_) | (with_reducible refine w_drop ?_) | (with_reducible refine w_nx ?_) | (with_reducible refine w_bin ?_) | (with_reducible refine w_test ?_) | (with_reducible refine w_andT ?_) | (with_reducible refine w_orT ?_) | (with_reducible refine w_notT ?_) | (with_reducible refine w_and ?_) | (with_reducible refine w_nil ?_) | (with_reducible refine w_cons ?_) | (with_reducible refine w_op ?_) | (with_reducible refine w_call0 ?_) | (with_reducible refine w_sl ?_) | (with_reducible refine w_nop ?_) | (with_reducible refine w_p ?_) | (with_reducible refine w_yes ?_) | (with_reducible refine w_c ?_) | (with_reducible refine w_un ?_) | (with_reducible refine w_par ?_) | (with_reducible refine w_asg ?_) | (with_reducible refine w_ifs ?_) | (with_reducible refine w_if ?_) | (with_reducible refine o_add ?_) | (with_reducible refine o_sub ?_) | (with_reducible refine o_lt ?_) | (with_reducible refine o_le ?_) | (with_reducible refine o_gt ?_) | (with_reducible refine o_ge ?_) | (with_reducible refine o_eqs ?_) | (with_reducible refine o_eqi ?_) | (with_reducible refine o_eqb ?_) | (with_reducible refine o_nes ?_) | (with_reducible refine o_nei ?_) | (with_reducible refine o_isnn ?_) | (with_reducible refine o_isni ?_) | (with_reducible refine o_isns ?_) | (with_reducible refine o_min ?_) | (with_reducible refine o_int ?_) | (with_reducible refine o_neg ?_) | (with_reducible refine o_lenT ?_) | (with_reducible refine o_lenL ?_) | (with_reducible refine sq_nx ?_) | (with_reducible refine sq_rt ?_) | ((with_reducible apply w_var); focus exact rfl) | (with_reducible refine w_tup ?_) | (with_reducible refine w_lst ?_) | (with_reducible refine w_new ?_) | ((with_reducible refine sz_and ?_ ?_); focus (simp only [List.length_cons, List.length_nil, sL] <;> omega)) | (with_reducible refine w_meth ?_) | (with_reducible refine w_lc ?_) | (with_reducible refine w_dput ?_) | (with_reducible refine w_dget ?_) | (with_reducible refine w_dget2 ?_) | ((with_reducible apply ex_rfl); focus exact rfl) | (with_reducible refine o_mod (by decide) ?_))
local macro_rules | `(tactic| walk_at "v") => `(tactic| first | (with_reducible refine w_seq ?_) | (with_reducible refine w_set ?_) | (with_reducible refine w_ret ?_) | (with_reducible refine w_drop ?_) | (with_reducible refine w_nx ?_) | (with_reducible refine w_bin ?_) | (with_reducible refine w_test ?_) | (with_reducible refine w_andT ?_) | (with_reducible refine w_orT ?_) | (with_reducible refine w_notT ?_) | (with_reducible refine w_and ?_) | (with_reducible refine w_nil ?_) | (with_reducible refine w_cons ?_) | (with_reducible refine w_op ?_) | (with_reducible refine w_call0 ?_) | (with_reducible refine w_sl ?_) | (with_reducible refine w_nop ?_) | (with_reducible refine w_p ?_) | (with_reducible refine w_yes ?_) | (with_reducible refine w_c ?_) | (with_reducible refine w_un ?_) | (with_reducible refine w_par ?_) | (with_reducible refine w_asg ?_) | (with_reducible refine o_add ?_) | (with_reducible refine o_sub ?_) | (with_reducible refine o_lt ?_) | (with_reducible refine o_le ?_) | (with_reducible refine o_gt ?_) | (with_reducible refine o_ge ?_) | (with_reducible refine o_eqs ?_) | (with_reducible refine o_eqi ?_) | (with_reducible refine o_eqb ?_) | (with_reducible refine o_nes ?_) | (with_reducible refine o_nei ?_) | (with_reducible refine o_isnn ?_) | (with_reducible refine o_isni ?_) | (with_reducible refine o_isns ?_) | (with_reducible refine o_min ?_) | (with_reducible refine o_int ?_) | (with_reducible refine o_neg ?_) | (with_reducible refine o_lenT ?_) | (with_reducible refine o_lenL ?_) | (with_reducible refine sq_nx ?_) | (with_reducible refine sq_rt ?_) | ((with_reducible apply w_var); focus exact rfl) | (with_reducible refine w_tup ?_) | (with_reducible refine w_lst ?_) | (with_reducible refine w_new ?_) | ((with_reducible refine sz_and ?_ ?_); focus (simp only [List.length_cons, List.length_nil, sL] <;> omega)) | (with_reducible refine w_meth ?_) | (with_reducible refine w_lc ?_) | (with_reducible refine w_dput ?_) | (with_reducible refine w_dget ?_) | (with_reducible refine w_dget2 ?_) | ((with_reducible apply ex_rfl); focus exact rfl) | (with_reducible refine o_mod (by decide) ?_))
local macro_rules | `(tactic| walk_at "u") => `(tactic| first | (with_reducible refine w_seq ?_) | (with_reducible refine w_set ?_) | (with_reducible refine w_ret ?_) | (with_reducible refine w_drop ?_) | (with_reducible refine w_nx ?_) | (with_reducible refine w_bin ?_) | (with_reducible refine w_test ?_) | (with_reducible refine w_andT ?_) | (with_reducible refine w_orT ?_) | (with_reducible refine w_notT ?_) | (with_reducible refine w_and ?_) | (with_reducible refine w_nil ?_) | (with_reducible refine w_cons ?_) | (with_reducible refine w_op ?_) | (with_reducible refine w_call0 ?_) | (with_reducible refine w_sl ?_) | (with_reducible refine w_nop ?_) | (with_reducible refine w_p ?_) | (with_reducible refine w_yes ?_) | (with_reducible refine w_c ?_) | (with_reducible refine w_un ?_) | (with_reducible refine w_par ?_) | (with_reducible refine w_asg ?_) | (with_reducible refine o_add ?_) | (with_reducible refine o_sub ?_) | (with_reducible refine o_lt ?_) | (with_reducible refine o_le ?_) | (with_reducible refine o_gt ?_) | (with_reducible refine o_ge ?_) | (with_reducible refine o_eqs ?_) | (with_reducible refine o_eqi ?_) | (with_reducible refine o_eqb ?_) | (with_reducible refine o_nes ?_) | (with_reducible refine o_nei ?_) | (with_reducible refine o_isnn ?_) | (with_reducible refine o_isni ?_) | (with_reducible refine o_isns ?_) | (with_reducible refine o_min ?_) | (with_reducible refine o_int ?_) | (with_reducible refine o_neg ?_) | (with_reducible refine o_lenT ?_) | (with_reducible refine o_lenL ?_) | (with_reducible refine sq_nx ?_) | (with_reducible refine sq_rt ?_) | ((with_reducible apply w_var); focus exact rfl) | (with_reducible refine w_tup ?_) | (with_reducible refine w_lst ?_) | (with_reducible refine w_new ?_) | ((with_reducible refine sz_and ?_ ?_); focus (simp only [List.length_cons, List.length_nil, sL] <;> omega)) | (with_reducible refine w_meth ?_)  | (with_reducible refine w_dput ?_) | (with_reducible refine w_dget ?_) | (with_reducible refine w_dget2 ?_) | ((with_reducible apply ex_rfl); focus exact rfl) | (with_reducible refine o_mod (by decide) ?_))

theorem o_str {S : Sto} {i : Int} {Q : D → Prop} (h : Sm i) (k : Q (.str (num i))) : W1 (strOne S [.int i]) Q := ⟨_, if_pos h.wide, k⟩
theorem o_cat {S : Sto} {a b : Str} {Q : D → Prop} (h : a.length + b.length ≤ sizeLine) (k : Q (.str (a ++ b))) : W1 (addO S (.str a) (.str b)) Q := ⟨_, if_pos h, k⟩
theorem run_law_fill_word {f : Fill} {S : Sto} (c : Clo S) (ok : FOk f) : F__law_fill_word [f.d] S = some (.str (fillW f), S) := by
  refine settled_same ?_ c rfl
  have h1 := num_len ok.p
  have h2 := num_len ok.z
  have h3 := oW_len ok.n
  have main : W2 (runFn 1 1 b__law_fill_word [f.d] S) fun d S' => d = .str (fillW f) ∧ S' = S := by
    refine w_run rfl ?_
    unfold b__law_fill_word
    repeat walk_at "v"
    refine w1 (ix0 _ _ _) ?_
    repeat walk_at "v"
    refine o_str ok.p ?_
    repeat walk_at "v"
    refine o_cat (by rw [len1, sL]; omega) ?_
    repeat walk_at "v"
    refine w1 (ix1 _ _ _ _) ?_
    repeat walk_at "v"
    refine o_str ok.z ?_
    repeat walk_at "v"
    refine o_cat (by rw [Str.length_append, len1, sL]; omega) ?_
    repeat walk_at "v"
    refine o_cat (by rw [Str.length_append, Str.length_append, len1, len2, sL]; omega) ?_
    refine w2_mid (fun d S1 => d = .str (oW f.n) ∧ S1 = S) ?_ ?_
    · (with_reducible refine w_if ?_)
      repeat walk_at "v"
      refine w1 (ix2 _ _ _ _ _) ?_
      repeat walk_at "v"
      refine w1 (isO_oD _ _ _) ?_
      repeat walk_at "v"
      cases hn : f.n with
      | none =>
        refine ⟨fun _ => ?_, fun h => (by simp at h)⟩
        repeat walk_at "v"
        exact ⟨rfl, rfl⟩
      | some i =>
        refine ⟨fun h => (by simp at h), fun _ => ?_⟩
        repeat walk_at "v"
        refine w1 (ix2 _ _ _ _ _) ?_
        repeat walk_at "v"
        rw [hn]
        refine o_str (ok.n i hn) ?_
        exact ⟨rfl, rfl⟩
    · rintro d S1 ⟨rfl, rfl⟩
      refine o_cat (by simp only [Str.length_append, len1, len2, sL]; omega) ?_
      exact ⟨_, rfl, rfl, rfl⟩
  obtain ⟨d, S', e, rfl, rfl⟩ := main
  exact e
theorem fills_rok {r : Gn.Row} (h : ROk r) : (∀ f ∈ fillsOf r, FOk f) ∧ (fillsOf r).length ≤ 8 := by
  cases h with
  | order h1 h2 h3 h4 h5 h6 => exact ⟨h5, h6⟩
  | prints h5 h6 => exact ⟨h5, h6⟩
  | _ => exact ⟨(fun f hf => by cases hf), Nat.zero_le _⟩
theorem map_str' {α : Type} (g : α → Str) (l : List α) : (l.map fun x => D.str (g x)) = (l.map g).map D.str := (map_str g l).symm
theorem run_law_row_words {r : Gn.Row} {S : Sto} (c : Clo S) (h : ROk r) : F__law_row_words [r.d] S = some (.lst ((words r).map D.str), S) := by
  refine settled_same ?_ c (by simpa [FS.closed] using closedL_strs (n := S.length) id (words r))
  have hf := fills_rok h
  have main : W2 (runFn 1 6 b__law_row_words [r.d] S) fun d S' => d = .lst ((words r).map D.str) ∧ S' = S := by
    refine w_run rfl ?_
    unfold b__law_row_words
    repeat walk_at "u"
    refine w_lcsel Fill.d (fun _ => true) (fun f => .str (fillW f)) (fillsOf r) none (w_src1 ?_) rfl (fun f hf1 => ?_) ?_
    · repeat walk_at "v"
      exact w2 (run_fills c) ⟨.inl rfl, rfl⟩
    · refine ⟨_, rfl, ?_, fun _ => ?_⟩
      · repeat walk_at "v"
        exact ⟨rfl, rfl⟩
      · repeat walk_at "v"
        exact w2 (run_law_fill_word c (hf.1 f hf1)) ⟨rfl, rfl⟩
    rw [List.filter_eq_self.mpr (fun _ _ => rfl), map_str']
    (with_reducible refine sq_nx ?_)
    refine w_midr (fun ρ1 S1 => ρ1 = [some r.d, some (.lst (((fillsOf r).map fillW).map D.str)), none, none, none, none] ∧ S = S1 ∧ isOrd r = false) ?_ ?_
    · (with_reducible refine w_ifs ?_)
      repeat walk_at "v"
      refine w1 (tag_at _ _) ?_
      repeat walk_at "v"
      rw [tag_ord]
      refine ⟨fun ho => ?_, fun ho => ?_⟩
      · cases h with
        | @order m s p z fs h1 h2 h3 h4 h5 h6 =>
          repeat walk_at "v"
          refine w1 (ix1 _ _ _ _) ?_
          repeat walk_at "v"
          refine w1 (ix2 _ _ _ _ _) ?_
          repeat walk_at "v"
          refine w1 (ix3 _ _ _ _ _ _) ?_
          repeat walk_at "v"
          refine o_str h3 ?_
          repeat walk_at "v"
          refine w1 (ix4 _ _ _ _ _ _ _) ?_
          repeat walk_at "v"
          refine o_str h4 ?_
          repeat walk_at "v"
          refine w1 (addO_lm rfl rfl ?_) ?_
          · rw [List.length_map, List.length_map, sL]
            simp only [fillsOf, List.length_cons, List.length_nil]
            omega
          · refine .inr ⟨_, rfl, _, rfl, ?_, rfl⟩
            simp only [words, fillsOf, List.map_append, List.map_cons, List.map_nil, List.map_map]
        | _ => cases ho
      · repeat walk_at "v"
        exact .inl ⟨rfl, rfl, rfl, ho⟩
    rintro ρ1 S1 ⟨rfl, rfl, hno⟩
    refine w_midr (fun ρ1 S1 => ρ1 = [some r.d, some (.lst (((fillsOf r).map fillW).map D.str)), none, none, none, none] ∧ S = S1 ∧ isCall r = false) ?_ ?_
    · (with_reducible refine w_ifs ?_)
      repeat walk_at "v"
      refine w1 (tag_at _ _) ?_
      repeat walk_at "v"
      rw [tag_call]
      refine ⟨fun ho => ?_, fun ho => ?_⟩
      · cases h with
        | @call p ps h1 h5 h6 =>
          repeat walk_at "v"
          refine w2_mid (fun d S1 => d = .str (oW p) ∧ S1 = S) ?_ ?_
          · (with_reducible refine w_if ?_)
            repeat walk_at "v"
            refine w1 (ix1 _ _ _ _) ?_
            repeat walk_at "v"
            refine w1 (isO_oD _ _ _) ?_
            repeat walk_at "v"
            cases p with
            | none =>
              refine ⟨fun _ => ?_, fun h => (by simp at h)⟩
              repeat walk_at "v"
              exact ⟨rfl, rfl⟩
            | some i =>
              refine ⟨fun h => (by simp at h), fun _ => ?_⟩
              repeat walk_at "v"
              refine w1 (ix1 _ _ _ _) ?_
              repeat walk_at "v"
              refine o_str (h1 i rfl) ?_
              exact ⟨rfl, rfl⟩
          · rintro d S1 ⟨rfl, rfl⟩
            repeat walk_at "u"
            refine w_lcsel pD (fun _ => true) (fun q => .str (pairW q)) ps none (w_src1 ?_) rfl (fun q hq => ?_) ?_
            · repeat walk_at "v"
              exact w1 (ix2 _ _ _ _ _) ⟨.inl rfl, rfl⟩
            · refine ⟨_, rfl, ?_, fun _ => ?_⟩
              · repeat walk_at "v"
                exact ⟨rfl, rfl⟩
              · have l1 := num_len (h5 q hq).1
                have l2 := num_len (h5 q hq).2
                repeat walk_at "v"
                refine o_str (h5 q hq).2 ?_
                repeat walk_at "v"
                refine o_cat (by rw [len2, sL]; omega) ?_
                repeat walk_at "v"
                refine o_str (h5 q hq).1 ?_
                repeat walk_at "v"
                refine o_cat (by simp only [Str.length_append, len2, sL]; omega) ?_
                exact ⟨rfl, rfl⟩
            · rw [List.filter_eq_self.mpr (fun _ _ => rfl), map_str']
              repeat walk_at "v"
              refine w1 (addO_lm rfl rfl ?_) ?_
              · rw [List.length_map, List.length_map, sL]
                simp only [List.length_cons, List.length_nil]
                omega
              · refine .inr ⟨_, rfl, _, rfl, ?_, rfl⟩
                simp only [words, List.map_cons, List.map_map, List.cons_append, List.nil_append]
        | _ => cases ho
      · repeat walk_at "v"
        exact .inl ⟨rfl, rfl, rfl, ho⟩
    rintro ρ1 S1 ⟨rfl, rfl, hnc⟩
    repeat walk_at "v"
    refine w1 (tag_at _ _) ?_
    repeat walk_at "v"
    (with_reducible refine w_if ?_)
    repeat walk_at "v"
    refine w1 (tag_at _ _) ?_
    repeat walk_at "v"
    rw [tag_cancel]
    refine ⟨fun ho => ?_, fun ho => ?_⟩
    · cases h with
      | @cancel n h1 =>
        repeat walk_at "v"
        refine w1 (ix1 _ _ _ _) ?_
        repeat walk_at "v"
        refine o_str h1 ?_
        repeat walk_at "v"
        refine w1 (addO_lm rfl rfl (by rw [sL]; exact (by decide : 1 + 1 ≤ 16777216))) ?_
        exact ⟨_, rfl, rfl, rfl⟩
      | _ => cases ho
    · cases h with
      | order => cases hno
      | call => cases hnc
      | cancel => cases ho
      | @prints fs h5 h6 =>
        repeat walk_at "v"
        refine w1 (addO_lm rfl rfl ?_) ?_
        · rw [List.length_map, List.length_map, sL]
          simp only [fillsOf, List.length_cons, List.length_nil]
          omega
        · exact ⟨_, rfl, rfl, rfl⟩
      | closed =>
        repeat walk_at "v"
        refine w1 (addO_lm rfl rfl (by rw [sL]; exact (by decide : 1 + 0 ≤ 16777216))) ?_
        exact ⟨_, rfl, rfl, rfl⟩
  obtain ⟨d, S', e, rfl, rfl⟩ := main
  exact e
theorem row_join {r : Gn.Row} {S : Sto} (h : ROk r) : joinO S (.str " ") [.lst ((words r).map D.str)] = some (.str (rowT r), S) := joinO_of (S := S) (a := " ") (d := .lst ((words r).map D.str)) rfl (row_fits h)
theorem run_law_page {g : Gn.Rec} {S : Sto} (c : Clo S) (h : RecOk g) : F__law_page [g.d] S = some (.str (recT g), S) := by
  refine settled_same ?_ c rfl
  have main : W2 (runFn 1 2 b__law_page [g.d] S) fun d S' => d = .str (recT g) ∧ S' = S := by
    refine w_run rfl ?_
    unfold b__law_page
    (with_reducible refine w_ret ?_)
    (with_reducible refine w_meth ?_)
    (with_reducible refine w_c ?_)
    refine ⟨rfl, ?_⟩
    repeat walk_at "u"
    refine w1 (ix0 _ _ _) ?_
    repeat walk_at "u"
    refine o_cat (by have := h.rule.2; rw [rc7, sL]; omega) ?_
    repeat walk_at "u"
    refine w_lcsel Gn.Row.d (fun _ => true) (fun r => .str (rowT r)) g.rows none (w_src1 ?_) rfl (fun r hr => ?_) ?_
    · repeat walk_at "v"
      exact w1 (ix1 _ _ _ _) ⟨.inl rfl, rfl⟩
    · refine ⟨_, rfl, ?_, fun _ => ?_⟩
      · repeat walk_at "v"
        exact ⟨rfl, rfl⟩
      · repeat walk_at "v"
        refine ⟨rfl, ?_⟩
        repeat walk_at "v"
        refine w2 (run_law_row_words c (h.rows r hr)) ?_
        repeat walk_at "v"
        exact w2 (row_join (h.rows r hr)) ⟨rfl, rfl⟩
    · rw [List.filter_eq_self.mpr (fun _ _ => rfl), map_str']
      repeat walk_at "v"
      refine w1 (addO_lm rfl rfl ?_) ?_
      · have := h.few
        rw [List.length_map, List.length_map, sL]
        simp only [List.length_cons, List.length_nil]
        omega
      · repeat walk_at "v"
        refine w2 (joinO_of (l := recL g) rfl (rec_fits h)) ?_
        exact ⟨_, rfl, rfl, rfl⟩
  obtain ⟨d, S', e, rfl, rfl⟩ := main
  exact e
end K8
set_option Elab.async false
set_option linter.all false
set_option maxRecDepth 100000
set_option maxHeartbeats 8000000
namespace K8
open PySem PySem.Spec PyProof.Rows L2 FS Gn
local macro_rules | `(tactic| walk_at "w") => `(tactic| first | (with_reducible refine w_seq ?_) | (with_reducible refine w_set ?_) | (with_reducible refine w_ret ?_) | (with_reducible refine w_drop ?_) | (with_reducible refine w_nx ?_) | (with_reducible refine w_bin ?_) | (with_reducible refine w_test ?_) | (with_reducible refine w_andT ?_) | (with_reducible refine w_orT ?_) | (with_reducible refine w_notT ?_) | (with_reducible refine w_and ?_) | (with_reducible refine w_nil ?_) | (with_reducible refine w_cons ?_) | (with_reducible refine w_op ?_) | (with_reducible refine w_call0 ?_) | (with_reducible refine w_sl ?_) | (with_reducible refine w_nop ?_) | (with_reducible refine w_p ?_) | (with_reducible refine w_yes ?_) | (with_reducible refine w_c ?_) | (with_reducible refine w_un ?_) | (with_reducible refine w_par ?_) | (with_reducible refine w_asg ?_) | (with_reducible refine w_ifs ?_) | (with_reducible refine w_if ?_) | (with_reducible refine o_add ?_) | (with_reducible refine o_sub ?_) | (with_reducible refine o_lt ?_) | (with_reducible refine o_le ?_) | (with_reducible refine o_gt ?_) | (with_reducible refine o_ge ?_) | (with_reducible refine o_eqs ?_) | (with_reducible refine o_eqi ?_) | (with_reducible refine o_eqb ?_) | (with_reducible refine o_nes ?_) | (with_reducible refine o_nei ?_) | (with_reducible refine o_isnn ?_) | (with_reducible refine o_isni ?_) | (with_reducible refine o_isns ?_) | (with_reducible refine o_min ?_) | (with_reducible refine o_int ?_) | (with_reducible refine o_neg ?_) | (with_reducible refine o_lenT ?_) | (with_reducible refine o_lenL ?_) | (with_reducible refine sq_nx ?_) | (with_reducible refine sq_rt ?_) | ((with_reducible apply w_var); focus exact rfl) | (with_reducible refine w_tup ?_) | (with_reducible refine w_lst ?_) | (with_reducible refine w_new ?_) | ((with_reducible refine sz_and ?_ ?_); focus (simp only [List.length_cons, List.length_nil, sL] <;> omega)) | (with_reducible refine w_meth ?_) | (with_reducible refine w_lc ?_) | (with_reducible refine w_dput ?_) | (with_reducible refine w_dget ?_) | (with_reducible refine w_dget2 ?_) | ((with_reducible apply ex_rfl); focus exact rfl) | (with_reducible refine o_mod (by decide) ?_))
local macro_rules | `(tactic| walk_at "v") => `(tactic| first | (with_reducible refine w_seq ?_) | (with_reducible refine w_set ?_) | (with_reducible refine w_ret ?_) | (with_reducible refine w_drop ?_) | (with_reducible refine w_nx ?_) | (with_reducible refine w_bin ?_) | (with_reducible refine w_test ?_) | (with_reducible refine w_andT ?_) | (with_reducible refine w_orT ?_) | (with_reducible refine w_notT ?_) | (with_reducible refine w_and ?_) | (with_reducible refine w_nil ?_) | (with_reducible refine w_cons ?_) | (with_reducible refine w_op ?_) | (with_reducible refine w_call0 ?_) | (with_reducible refine w_sl ?_) | (with_reducible refine w_nop ?_) | (with_reducible refine w_p ?_) | (with_reducible refine w_yes ?_) | (with_reducible refine w_c ?_) | (with_reducible refine w_un ?_) | (with_reducible refine w_par ?_) | (with_reducible refine w_asg ?_) | (with_reducible refine o_add ?_) | (with_reducible refine o_sub ?_) | (with_reducible refine o_lt ?_) | (with_reducible refine o_le ?_) | (with_reducible refine o_gt ?_) | (with_reducible refine o_ge ?_) | (with_reducible refine o_eqs ?_) | (with_reducible refine o_eqi ?_) | (with_reducible refine o_eqb ?_) | (with_reducible refine o_nes ?_) | (with_reducible refine o_nei ?_) | (with_reducible refine o_isnn ?_) | (with_reducible refine o_isni ?_) | (with_reducible refine o_isns ?_) | (with_reducible refine o_min ?_) | (with_reducible refine o_int ?_) | (with_reducible refine o_neg ?_) | (with_reducible refine o_lenT ?_) | (with_reducible refine o_lenL ?_) | (with_reducible refine sq_nx ?_) | (with_reducible refine sq_rt ?_) | ((with_reducible apply w_var); focus exact rfl) | (with_reducible refine w_tup ?_) | (with_reducible refine w_lst ?_) | (with_reducible refine w_new ?_) | ((with_reducible refine sz_and ?_ ?_); focus (simp only [List.length_cons, List.length_nil, sL] <;> omega)) | (with_reducible refine w_meth ?_) | (with_reducible refine w_lc ?_) | (with_reducible refine w_dput ?_) | (with_reducible refine w_dget ?_) | (with_reducible refine w_dget2 ?_) | ((with_reducible apply ex_rfl); focus exact rfl) | (with_reducible refine o_mod (by decide) ?_))
local macro_rules | `(tactic| walk_at "u") => `(tactic| first | (with_reducible refine w_seq ?_) | (with_reducible refine w_set ?_) | (with_reducible refine w_ret ?_) | (with_reducible refine w_drop ?_) | (with_reducible refine w_nx ?_) | (with_reducible refine w_bin ?_) | (with_reducible refine w_test ?_) | (with_reducible refine w_andT ?_) | (with_reducible refine w_orT ?_) | (with_reducible refine w_notT ?_) | (with_reducible refine w_and ?_) | (with_reducible refine w_nil ?_) | (with_reducible refine w_cons ?_) | (with_reducible refine w_op ?_) | (with_reducible refine w_call0 ?_) | (with_reducible refine w_sl ?_) | (with_reducible refine w_nop ?_) | (with_reducible refine w_p ?_) | (with_reducible refine w_yes ?_) | (with_reducible refine w_c ?_) | (with_reducible refine w_un ?_) | (with_reducible refine w_par ?_) | (with_reducible refine w_asg ?_) | (with_reducible refine o_add ?_) | (with_reducible refine o_sub ?_) | (with_reducible refine o_lt ?_) | (with_reducible refine o_le ?_) | (with_reducible refine o_gt ?_) | (with_reducible refine o_ge ?_) | (with_reducible refine o_eqs ?_) | (with_reducible refine o_eqi ?_) | (with_reducible refine o_eqb ?_) | (with_reducible refine o_nes ?_) | (with_reducible refine o_nei ?_) | (with_reducible refine o_isnn ?_) | (with_reducible refine o_isni ?_) | (with_reducible refine o_isns ?_) | (with_reducible refine o_min ?_) | (with_reducible refine o_int ?_) | (with_reducible refine o_neg ?_) | (with_reducible refine o_lenT ?_) | (with_reducible refine o_lenL ?_) | (with_reducible refine sq_nx ?_) | (with_reducible refine sq_rt ?_) | ((with_reducible apply w_var); focus exact rfl) | (with_reducible refine w_tup ?_) | (with_reducible refine w_lst ?_) | (with_reducible refine w_new ?_) | ((with_reducible refine sz_and ?_ ?_); focus (simp only [List.length_cons, List.length_nil, sL] <;> omega)) | (with_reducible refine w_meth ?_)  | (with_reducible refine w_dput ?_) | (with_reducible refine w_dget ?_) | (with_reducible refine w_dget2 ?_) | ((with_reducible apply ex_rfl); focus exact rfl) | (with_reducible refine o_mod (by decide) ?_))

/-! ### the texts are of common signs -/
theorem alit (x : Str) (h : (x.cps.toList.all fun c => decide (c < 128)) = true) : Asc x := asc_lit h
theorem oW_asc (o : Option Int) : Asc (oW o) := by
  cases o with
  | none => exact alit "-" (by decide +kernel)
  | some i => exact .num i
theorem fillW_asc (f : Fill) : Asc (fillW f) := (((Asc.num f.p).append (alit "*" (by decide +kernel))).append (.num f.z)).append (alit "@" (by decide +kernel)) |>.append (oW_asc _)
theorem words_asc {r : Gn.Row} (h : ROk r) : ∀ x ∈ words r, Asc x := by
  intro x hx
  cases h with
  | @order m s p z fs h1 h2 h3 h4 h5 h6 =>
    simp only [words, List.cons_append, List.nil_append, List.mem_cons, List.mem_map] at hx
    rcases hx with rfl | rfl | rfl | rfl | rfl | ⟨f, hf, rfl⟩
    · exact alit _ (by decide +kernel)
    · exact h1.1
    · exact h2.1
    · exact .num _
    · exact .num _
    · exact fillW_asc f
  | @prints fs h5 h6 =>
    simp only [words, List.mem_cons, List.mem_map] at hx
    rcases hx with rfl | ⟨f, hf, rfl⟩
    · exact alit _ (by decide +kernel)
    · exact fillW_asc f
  | @call p ps h1 h5 h6 =>
    simp only [words, List.mem_cons, List.mem_map] at hx
    rcases hx with rfl | rfl | ⟨q, hq, rfl⟩
    · exact alit _ (by decide +kernel)
    · exact oW_asc _
    · exact ((Asc.num _).append (alit "@" (by decide +kernel))).append (.num _)
  | @cancel n h =>
    simp only [words, List.mem_cons, List.not_mem_nil, or_false] at hx
    rcases hx with rfl | rfl
    · exact alit _ (by decide +kernel)
    · exact .num _
  | closed =>
    simp only [words, List.mem_cons, List.not_mem_nil, or_false] at hx
    subst hx
    exact alit _ (by decide +kernel)
theorem rowT_asc {r : Gn.Row} (h : ROk r) : Asc (rowT r) := Asc.join (alit " " (by decide +kernel)) (words_asc h)
theorem rowT_nice {r : Gn.Row} (h : ROk r) : Nice (.str (rowT r)) 0 (10 * 27300 + 2) := .str (rowT_asc h) (rowT_len h)
theorem recL_facts {g : Gn.Rec} (h : RecOk g) : (∀ x ∈ recL g, x.length ≤ 27300 ∧ Asc x) ∧ (recL g).length ≤ 32 := by
  refine ⟨fun x hx => ?_, by unfold recL; simp; exact h.few⟩
  unfold recL at hx
  rcases List.mem_cons.mp hx with rfl | hx
  · refine ⟨?_, (alit "record " (by decide +kernel)).append h.rule.1⟩
    have := h.rule.2
    rw [Str.length_append, rc7]
    omega
  · obtain ⟨r, hr, rfl⟩ := List.mem_map.mp hx
    exact ⟨rowT_len (h.rows r hr), rowT_asc (h.rows r hr)⟩
theorem recT_nice {g : Gn.Rec} (h : RecOk g) : Nice (.str (recT g)) 0 (10 * 900000 + 2) := by
  obtain ⟨h1, h2⟩ := recL_facts h
  refine .str (Asc.join (alit "\n" (by decide +kernel)) fun x hx => (h1 x hx).2) ?_
  have h3 := sum_le fun x hx => (h1 x hx).1
  have h4 := joinLen "\n" (recL g)
  rw [nl1] at h4
  have : (recL g).length * 27300 ≤ 32 * 27300 := Nat.mul_le_mul_right _ h2
  unfold recT
  omega
theorem rec_nice {g : Gn.Rec} (h : RecOk g) : Nice g.d 5 4961000 := by
  have h1 : Nice (.tup (g.rows.map Gn.Row.d)) 4 (160002 * 31 + 3) := by
    refine Nice.tup ((NiceL.all (k := 3) (w := 160000) fun d hd => ?_).mono (Nat.le_refl _) ?_)
    · obtain ⟨r, hr, rfl⟩ := List.mem_map.mp hd
      exact nice_row (h.rows r hr)
    · rw [List.length_map]
      exact Nat.mul_le_mul_left _ h.few
  exact (Nice.tup (((NiceL.nil.mono (Nat.zero_le 4) (Nat.le_refl _)).cons h1).cons ((Nice.str h.rule.1 h.rule.2).mono (Nat.zero_le _) (Nat.le_refl _)))).mono (Nat.le_refl _) (by decide)
/-! ### loose rows -/
def big : Int := 10 ^ 59
theorem big_sm : Sm big := by unfold Sm big; decide +kernel
theorem o_big {S : Sto} {Q : D → Prop} (k : Q (.int big)) : W1 (powO S (.int 10) (.int 59)) Q := o_pow ⟨by decide, by decide, by decide⟩ k
def pool : List D := [.int 1, .int 2, .int 10, .int 999, .int big, .int 77]
theorem pool_at (S : Sto) {i : Int} (h0 : 0 ≤ i) (h1 : i < 6) : ∃ v, ixO S (.lst pool) (.int i) = some (.int v) ∧ Sm v := by
  have : i = 0 ∨ i = 1 ∨ i = 2 ∨ i = 3 ∨ i = 4 ∨ i = 5 := by omega
  rcases this with rfl | rfl | rfl | rfl | rfl | rfl
  · exact ⟨_, pick_of (n := 0) pool (by decide), sm_bd (by decide) (by decide)⟩
  · exact ⟨_, pick_of (n := 1) pool (by decide), sm_bd (by decide) (by decide)⟩
  · exact ⟨_, pick_of (n := 2) pool (by decide), sm_bd (by decide) (by decide)⟩
  · exact ⟨_, pick_of (n := 3) pool (by decide), sm_bd (by decide) (by decide)⟩
  · exact ⟨_, pick_of (n := 4) pool (by decide), big_sm⟩
  · exact ⟨_, pick_of (n := 5) pool (by decide), sm_bd (by decide) (by decide)⟩
theorem run_loose_row {r c : Nat} {u : MO} {S : Sto} (cS : Clo S) (hu : S[r]? = some u) (hR : RdM u c) (hc : c + 40 ≤ 100000) :
    ∃ x u', F__law_loose_row [.ref r] S = some (Gn.Row.d x, S.set r u') ∧ RdM u' (c + 40) ∧ ROk x := by
  have hr : r < S.length := (List.getElem?_eq_some_iff.mp hu).1
  have cS2 : ∀ (v : MO) (n : Nat) (fs : List Fill), RdM v n → Clo (S.set r v ++ [.lst (fs.map Fill.d)]) := fun v n fs h => (cS.set h.closed).app (closed_fills _ _)
  have main : W2 (runFn 1 9 b__law_loose_row [.ref r] S) fun d S' => ∃ x u' T, d = Gn.Row.d x ∧ S' = S.set r u' ++ T ∧ RdM u' (c + 40) ∧ ROk x := by
    refine w_run rfl ?_
    unfold b__law_loose_row
    refine w_mid (fun ρ1 S1 => ρ1 = [some (.ref r), some (.lst pool), none, none, none, none, none, none, none] ∧ S = S1) ?_ ?_
    · repeat walk_at "v"
      refine o_big ?_
      repeat walk_at "v"
      exact ⟨rfl, rfl, rfl⟩
    rintro ρ1 S1 ⟨rfl, rfl⟩
    refine w_mid (fun ρ1 S1 => ρ1 = [some (.ref r), some (.lst pool), some (.ref S.length), none, none, none, none, none, none] ∧ S1 = S.set r u ++ [.lst []]) ?_ ?_
    · repeat walk_at "v"
      exact ⟨rfl, rfl, by rw [same_set hu]⟩
    rintro ρ1 S1 ⟨rfl, rfl⟩
    refine w_mid (fun ρ1 S1 => ∃ (x3 x4 : Option D) (fs : List Fill) (u1 : MO), ρ1 = [some (.ref r), some (.lst pool), some (.ref S.length), x3, x4, none, none, none, none] ∧ S1 = S.set r u1 ++ [.lst (fs.map Fill.d)] ∧ RdM u1 (c + 13) ∧ fs.length ≤ 4 ∧ ∀ f ∈ fs, FOk f) ?_ ?_
    · refine w_forq (fun n S1 => n ≤ 4 ∧ ∃ u', S1 = S.set r u' ++ [.lst []] ∧ RdM u' (c + 1))
        (fun n k ρ S1 => n ≤ 4 ∧ ∃ (x3 x4 : Option D) (u' : MO) (fs : List Fill), ρ = [some (.ref r), some (.lst pool), some (.ref S.length), x3, x4, none, none, none, none] ∧ S1 = S.set r u' ++ [.lst (fs.map Fill.d)] ∧ RdM u' (c + 1 + 3 * k) ∧ fs.length ≤ k ∧ ∀ f ∈ fs, FOk f) ?_ ?_ ?_ ?_
      · repeat walk_at "v"
        refine draw_at (cS2 _ _ [] hR) hr hR (by omega) (by decide) (by decide) fun i u' h0 h1 hu' => ?_
        repeat walk_at "v"
        exact ⟨i.toNat, by rw [Int.toNat_of_nonneg h0], by omega, by omega, u', rfl, hu'⟩
      · rintro n S1 ⟨hn, u', rfl, hu'⟩
        exact ⟨hn, _, _, u', [], rfl, rfl, hu', Nat.le_refl _, fun f hf => by cases hf⟩
      · rintro n k hkn ρ S1 ⟨hn, x3, x4, u2, fs, rfl, rfl, hu2, hfl, hfs⟩
        refine ⟨_, rfl, ?_⟩
        repeat walk_at "v"
        refine o_big ?_
        repeat walk_at "v"
        refine draw_at (cS2 _ _ fs hu2) hr hu2 (by omega) (by decide) (by decide) fun i3 u3 h30 h31 hu3 => ?_
        have hn4 : ∃ o : Option Int, (∀ i, o = some i → Sm i) ∧ ixO (S.set r u3 ++ [.lst (fs.map Fill.d)]) (.lst [.non, .int 0, .int 3, .int big]) (.int i3) = some (oD o) := by
          have : i3 = 0 ∨ i3 = 1 ∨ i3 = 2 ∨ i3 = 3 := by omega
          rcases this with rfl | rfl | rfl | rfl
          · exact ⟨none, (fun i h => by cases h), pick_of (n := 0) _ (Nat.lt_of_sub_pos (by decide))⟩
          · exact ⟨some 0, (fun i h => by cases h; exact sm_bd (by decide) (by decide)), pick_of (n := 1) [.non, .int 0, .int 3, .int big] (by simp)⟩
          · exact ⟨some 3, (fun i h => by cases h; exact sm_bd (by decide) (by decide)), pick_of (n := 2) [.non, .int 0, .int 3, .int big] (by simp)⟩
          · exact ⟨some big, (fun i h => by cases h; exact big_sm), pick_of (n := 3) [.non, .int 0, .int 3, .int big] (by simp)⟩
        obtain ⟨o, ho1, ho2⟩ := hn4
        refine w1 ho2 ?_
        repeat walk_at "v"
        refine ⟨isL_at own_at, ?_⟩
        repeat walk_at "v"
        refine draw_at (cS2 _ _ fs hu3) hr hu3 (by omega) (by decide) (by decide) fun i4 u4 h40 h41 hu4 => ?_
        obtain ⟨p, hp1, hp2⟩ := pool_at (S.set r u4 ++ [.lst (fs.map Fill.d)]) h40 h41
        refine w1 hp1 ?_
        repeat walk_at "v"
        refine draw_at (cS2 _ _ fs hu4) hr hu4 (by omega) (by decide) (by decide) fun i5 u5 h50 h51 hu5 => ?_
        obtain ⟨z, hz1, hz2⟩ := pool_at (S.set r u5 ++ [.lst (fs.map Fill.d)]) h50 h51
        refine w1 hz1 ?_
        repeat walk_at "v"
        refine w2 (app_to own_at (by rw [List.length_map, sL]; omega)) ?_
        rw [own_set, show fs.map Fill.d ++ [.tup [.int p, .int z, oD o]] = (fs ++ [Fill.mk p z o]).map Fill.d by rw [List.map_append]; rfl]
        refine ⟨.inl rfl, hn, _, _, u5, _, rfl, rfl, hu5.mono (by omega), by rw [List.length_append, List.length_singleton]; omega, fun f hf => ?_⟩
        rcases List.mem_append.mp hf with hf | hf
        · exact hfs f hf
        · rw [List.mem_singleton] at hf
          subst hf
          exact ⟨hp2, hz2, ho1⟩
      · rintro n ρ' S' ⟨hn, x3, x4, u2, fs, rfl, rfl, hu2, hfl, hfs⟩
        exact ⟨rfl, x3, x4, fs, u2, rfl, rfl, hu2.mono (by omega), by omega, hfs⟩
    rintro ρ1 S1 ⟨x3, x4, fs, u1, rfl, rfl, hu1, hfl, hfs⟩
    refine w_mid (fun ρ1 S1 => ∃ (ps : List (Int × Int)) (u2 : MO), ρ1 = [some (.ref r), some (.lst pool), some (.ref S.length), x3, x4, some (.lst (ps.map pD)), none, none, none] ∧ S1 = S.set r u2 ++ [.lst (fs.map Fill.d)] ∧ RdM u2 (c + 19) ∧ ps.length ≤ 5 ∧ ∀ q ∈ ps, Sm q.1 ∧ Sm q.2) ?_ ?_
    · (with_reducible refine w_set ?_)
      obtain ⟨i3, u3, e3, hu3, h30, h31⟩ := run_draw (cS2 _ _ fs hu1) (get_app hr u1) hu1 (by omega) (show (0 : Int) < 6 by decide) (by decide)
      rw [set_app hr] at e3
      refine w_lcst (S1 := S.set r u3 ++ [.lst (fs.map Fill.d)]) D.int pD (([0, 1, 5, 8, big] : List Int).drop i3.toNat) none (fun pre acc S1 => ∃ u4, S1 = S.set r u4 ++ [.lst (fs.map Fill.d)] ∧ RdM u4 (c + 14 + pre.length) ∧ acc.length = pre.length ∧ ∀ q ∈ acc, Sm q.1 ∧ Sm q.2) ?_ ⟨u3, rfl, hu3, rfl, fun q hq => by cases hq⟩ ?_ ?_
      · refine w_seqLs ?_
        repeat walk_at "v"
        refine o_big ?_
        repeat walk_at "v"
        refine w2 e3 ?_
        repeat walk_at "v"
        obtain ⟨j3, rfl⟩ : ∃ j3 : Nat, i3 = j3 := ⟨i3.toNat, by omega⟩
        refine w1 (a := .lst (FS.cutD (([0, 1, 5, 8, big] : List Int).map D.int) (some (j3 : Int)) none)) rfl ⟨?_, rfl⟩
        rw [cut_from, List.map_drop]
        rfl
      · rintro pre j post acc S1 e ⟨u4, rfl, hu4, ha, hb⟩
        have hl : pre.length + 1 ≤ 5 := by
          have := congrArg List.length e
          rw [List.length_append, List.length_cons, List.length_drop] at this
          simp only [List.length_cons, List.length_nil] at this
          omega
        have hj : Sm j := by
          have : j ∈ ([0, 1, 5, 8, big] : List Int) := List.mem_of_mem_drop (by rw [e]; simp)
          simp only [List.mem_cons, List.not_mem_nil, or_false] at this
          rcases this with rfl | rfl | rfl | rfl | rfl
          · exact sm_bd (by decide) (by decide)
          · exact sm_bd (by decide) (by decide)
          · exact sm_bd (by decide) (by decide)
          · exact sm_bd (by decide) (by decide)
          · exact big_sm
        refine ⟨_, rfl, ?_⟩
        repeat walk_at "v"
        refine draw_at (cS2 _ _ fs hu4) hr hu4 (by omega) (by decide) (by decide) fun i5 u5 h50 h51 hu5 => ?_
        obtain ⟨z, hz1, hz2⟩ := pool_at (S.set r u5 ++ [.lst (fs.map Fill.d)]) h50 h51
        refine w1 hz1 ?_
        repeat walk_at "v"
        refine ⟨(j, z), rfl, rfl, u5, rfl, hu5.mono (by rw [List.length_append, List.length_singleton]; omega), by rw [List.length_append, List.length_append, ha]; rfl, fun q hq => ?_⟩
        rcases List.mem_append.mp hq with hq | hq
        · exact hb q hq
        · rw [List.mem_singleton] at hq
          subst hq
          exact ⟨hj, hz2⟩
      · rintro acc S1 ⟨u4, rfl, hu4, ha, hb⟩
        rw [List.length_drop] at ha hu4
        simp only [List.length_cons, List.length_nil] at ha hu4
        exact ⟨rfl, acc, u4, rfl, rfl, hu4.mono (by omega), by omega, hb⟩
    rintro ρ1 S1 ⟨ps, u2, rfl, rfl, hu2, hpl, hps⟩
    repeat walk_at "v"
    refine draw_at (cS2 _ _ fs hu2) hr hu2 (by omega) (by decide) (by decide) fun i3 u3 h30 h31 hu3 => ?_
    have hname : ∃ m : Str, Wd m ∧ ixO (S.set r u3 ++ [.lst (fs.map Fill.d)]) (.lst [.str "ann", .str "order", .str "zzzzzzzz"]) (.int i3) = some (.str m) := by
      have : i3 = 0 ∨ i3 = 1 ∨ i3 = 2 := by omega
      rcases this with rfl | rfl | rfl
      · exact ⟨_, wd_lit _ (by decide +kernel) (by decide +kernel), pick_of (n := 0) _ (by decide)⟩
      · exact ⟨_, wd_lit _ (by decide +kernel) (by decide +kernel), pick_of (n := 1) _ (by decide)⟩
      · exact ⟨_, wd_lit _ (by decide +kernel) (by decide +kernel), pick_of (n := 2) _ (by decide)⟩
    obtain ⟨m, hm1, hm2⟩ := hname
    refine w1 hm2 ?_
    repeat walk_at "v"
    refine draw_at (cS2 _ _ fs hu3) hr hu3 (by omega) (by decide) (by decide) fun i4 u4 h40 h41 hu4 => ?_
    have hside : ∃ s : Str, Wd s ∧ ixO (S.set r u4 ++ [.lst (fs.map Fill.d)]) (.lst [.str "buy", .str "sell"]) (.int i4) = some (.str s) := by
      have : i4 = 0 ∨ i4 = 1 := by omega
      rcases this with rfl | rfl
      · exact ⟨_, wd_lit _ (by decide +kernel) (by decide +kernel), pick_of (n := 0) _ (by decide)⟩
      · exact ⟨_, wd_lit _ (by decide +kernel) (by decide +kernel), pick_of (n := 1) _ (by decide)⟩
    obtain ⟨s, hs1, hs2⟩ := hside
    refine w1 hs2 ?_
    repeat walk_at "v"
    refine ⟨_, _, rfl, ?_⟩
    repeat walk_at "v"
    refine draw_at (cS2 _ _ fs hu4) hr hu4 (by omega) (by decide) (by decide) fun i5 u5 h50 h51 hu5 => ?_
    obtain ⟨p, hp1, hp2⟩ := pool_at (S.set r u5 ++ [.lst (fs.map Fill.d)]) h50 h51
    refine w1 hp1 ?_
    repeat walk_at "v"
    refine draw_at (cS2 _ _ fs hu5) hr hu5 (by omega) (by decide) (by decide) fun i6 u6 h60 h61 hu6 => ?_
    obtain ⟨z, hz1, hz2⟩ := pool_at (S.set r u6 ++ [.lst (fs.map Fill.d)]) h60 h61
    refine w1 hz1 ?_
    repeat walk_at "v"
    refine w1 (tupleO_sq own_sq) ?_
    repeat walk_at "v"
    refine w1 (tupleO_sq own_sq) ?_
    repeat walk_at "v"
    refine o_big ?_
    repeat walk_at "v"
    refine draw_at (cS2 _ _ fs hu6) hr hu6 (by omega) (by decide) (by decide) fun i7 u7 h70 h71 hu7 => ?_
    have hcan : ∃ n : Int, Sm n ∧ ixO (S.set r u7 ++ [.lst (fs.map Fill.d)]) (.lst [.int 0, .int 7, .int big]) (.int i7) = some (.int n) := by
      have : i7 = 0 ∨ i7 = 1 ∨ i7 = 2 := by omega
      rcases this with rfl | rfl | rfl
      · exact ⟨_, sm_bd (i := 0) (by decide) (by decide), pick_of (n := 0) [.int 0, .int 7, .int big] (by simp)⟩
      · exact ⟨_, sm_bd (i := 7) (by decide) (by decide), pick_of (n := 1) [.int 0, .int 7, .int big] (by simp)⟩
      · exact ⟨_, big_sm, pick_of (n := 2) [.int 0, .int 7, .int big] (by simp)⟩
    obtain ⟨n, hn1, hn2⟩ := hcan
    refine w1 hn2 ?_
    repeat walk_at "v"
    refine w1 (addO_lm rfl rfl (by rw [sL]; exact (by decide : 1 + 3 ≤ 16777216))) ?_
    repeat walk_at "v"
    refine draw_at (cS2 _ _ fs hu7) hr hu7 (by omega) (by decide) (by decide) fun i8 u8 h80 h81 hu8 => ?_
    obtain ⟨q, hq1, hq2⟩ := pool_at (S.set r u8 ++ [.lst (fs.map Fill.d)]) h80 h81
    refine w1 hq1 ?_
    repeat walk_at "v"
    refine w1 (tupleO_sq rfl) ?_
    repeat walk_at "v"
    refine w1 (addO_lm rfl rfl (by rw [sL]; exact (by decide : 4 + 2 ≤ 16777216))) ?_
    repeat walk_at "v"
    refine draw_at (cS2 _ _ fs hu8) hr hu8 (by omega) (by decide) (by decide) fun i9 u9 h90 h91 hu9 => ?_
    have hrow : ∃ x : Gn.Row, ROk x ∧ ixO (S.set r u9 ++ [.lst (fs.map Fill.d)]) (.lst (([.order m s p z fs, .prints fs, .cancel n, .closed, .call (some q) ps, .call none []] : List Gn.Row).map Gn.Row.d)) (.int i9) = some (Gn.Row.d x) := by
      have o1 : ROk (.order m s p z fs) := .order hm1 hs1 hp2 hz2 hfs (by omega)
      have o2 : ROk (.prints fs) := .prints hfs (by omega)
      have o3 : ROk (.cancel n) := .cancel hn1
      have o5 : ROk (.call (some q) ps) := .call (fun i hi => by cases hi; exact hq2) hps (by omega)
      have o6 : ROk (.call none []) := .call (fun i hi => by cases hi) (fun q hq => by cases hq) (by decide)
      have : i9 = 0 ∨ i9 = 1 ∨ i9 = 2 ∨ i9 = 3 ∨ i9 = 4 ∨ i9 = 5 := by omega
      rcases this with rfl | rfl | rfl | rfl | rfl | rfl
      · exact ⟨_, o1, pick_of (n := 0) _ (by simp)⟩
      · exact ⟨_, o2, pick_of (n := 1) _ (by simp)⟩
      · exact ⟨_, o3, pick_of (n := 2) _ (by simp)⟩
      · exact ⟨_, .closed, pick_of (n := 3) _ (by simp)⟩
      · exact ⟨_, o5, pick_of (n := 4) _ (by simp)⟩
      · exact ⟨_, o6, pick_of (n := 5) _ (by simp)⟩
    obtain ⟨x, hx1, hx2⟩ := hrow
    refine w1 hx2 ?_
    exact ⟨_, rfl, x, u9, _, rfl, rfl, hu9.mono (by omega), hx1⟩
  obtain ⟨d, S', e, x, u', T, rfl, rfl, h1, h2⟩ := main
  refine ⟨x, u', ?_, h1, h2⟩
  exact settled_to e (by rw [List.length_set]) (cS.set h1.closed) (closed_row _ _)
end K8
set_option Elab.async false
set_option linter.all false
set_option maxRecDepth 100000
set_option maxHeartbeats 8000000
namespace K8
open PySem PySem.Spec PyProof.Rows L2 FS Gn
local macro_rules | `(tactic| walk_at "w") => `(tactic| first | (with_reducible refine w_seq ?_) | (with_reducible refine w_set ?_) | (with_reducible refine w_ret ?_) | (with_reducible refine w_drop ?_) | (with_reducible refine w_nx ?_) | (with_reducible refine w_bin ?_) | (with_reducible refine w_test ?_) | (with_reducible refine w_andT ?_) | (with_reducible refine w_orT ?_) | (with_reducible refine w_notT ?_) | (with_reducible refine w_and ?_) | (with_reducible refine w_nil ?_) | (with_reducible refine w_cons ?_) | (with_reducible refine w_op ?_) | (with_reducible refine w_call0 ?_) | (with_reducible refine w_sl ?_) | (with_reducible refine w_nop ?_) | (with_reducible refine w_p ?_) | (with_reducible refine w_yes ?_) | (with_reducible refine w_c ?_) | (with_reducible refine w_un ?_) | (with_reducible refine w_par ?_) | (with_reducible refine w_asg ?_) | (with_reducible refine w_ifs ?_) | (with_reducible refine w_if ?_) | (with_reducible refine o_add ?_) | (with_reducible refine o_sub ?_) | (with_reducible refine o_lt ?_) | (with_reducible refine o_le ?_) | (with_reducible refine o_gt ?_) | (with_reducible refine o_ge ?_) | (with_reducible refine o_eqs ?_) | (with_reducible refine o_eqi ?_) | (with_reducible refine o_eqb ?_) | (with_reducible refine o_nes ?_) | (with_reducible refine o_nei ?_) | (with_reducible refine o_isnn ?_) | (with_reducible refine o_isni ?_) | (with_reducible refine o_isns ?_) | (with_reducible refine o_min ?_) | (with_reducible refine o_int ?_) | (with_reducible refine o_neg ?_) | (with_reducible refine o_lenT ?_) | (with_reducible refine o_lenL ?_) | (with_reducible refine sq_nx ?_) | (with_reducible refine sq_rt ?_) | ((with_reducible apply w_var); focus exact rfl) | (with_reducible refine w_tup ?_) | (with_reducible refine w_lst ?_) | (with_reducible refine w_new ?_) | ((with_reducible refine sz_and ?_ ?_); focus (simp only [List.length_cons, List.length_nil, sL] <;> omega)) | (with_reducible refine w_meth ?_) | (with_reducible refine w_lc ?_) | (with_reducible refine w_dput ?_) | (with_reducible refine w_dget ?_) | (with_reducible refine w_dget2 ?_) | ((with_reducible apply ex_rfl); focus exact rfl) | (with_reducible refine o_mod (by decide) ?_))
local macro_rules | `(tactic| walk_at "v") => `(tactic| first | (with_reducible refine w_seq ?_) | (with_reducible refine w_set ?_) | (with_reducible refine w_ret ?_) | (with_reducible refine w_drop ?_) | (with_reducible refine w_nx ?_) | (with_reducible refine w_bin ?_) | (with_reducible refine w_test ?_) | (with_reducible refine w_andT ?_) | (with_reducible refine w_orT ?_) | (with_reducible refine w_notT ?_) | (with_reducible refine w_and ?_) | (with_reducible refine w_nil ?_) | (with_reducible refine w_cons ?_) | (with_reducible refine w_op ?_) | (with_reducible refine w_call0 ?_) | (with_reducible refine w_sl ?_) | (with_reducible refine w_nop ?_) | (with_reducible refine w_p ?_) | (with_reducible refine w_yes ?_) | (with_reducible refine w_c ?_) | (with_reducible refine w_un ?_) | (with_reducible refine w_par ?_) | (with_reducible refine w_asg ?_) | (with_reducible refine o_add ?_) | (with_reducible refine o_sub ?_) | (with_reducible refine o_lt ?_) | (with_reducible refine o_le ?_) | (with_reducible refine o_gt ?_) | (with_reducible refine o_ge ?_) | (with_reducible refine o_eqs ?_) | (with_reducible refine o_eqi ?_) | (with_reducible refine o_eqb ?_) | (with_reducible refine o_nes ?_) | (with_reducible refine o_nei ?_) | (with_reducible refine o_isnn ?_) | (with_reducible refine o_isni ?_) | (with_reducible refine o_isns ?_) | (with_reducible refine o_min ?_) | (with_reducible refine o_int ?_) | (with_reducible refine o_neg ?_) | (with_reducible refine o_lenT ?_) | (with_reducible refine o_lenL ?_) | (with_reducible refine sq_nx ?_) | (with_reducible refine sq_rt ?_) | ((with_reducible apply w_var); focus exact rfl) | (with_reducible refine w_tup ?_) | (with_reducible refine w_lst ?_) | (with_reducible refine w_new ?_) | ((with_reducible refine sz_and ?_ ?_); focus (simp only [List.length_cons, List.length_nil, sL] <;> omega)) | (with_reducible refine w_meth ?_) | (with_reducible refine w_lc ?_) | (with_reducible refine w_dput ?_) | (with_reducible refine w_dget ?_) | (with_reducible refine w_dget2 ?_) | ((with_reducible apply ex_rfl); focus exact rfl) | (with_reducible refine o_mod (by decide) ?_))
local macro_rules | `(tactic| walk_at "u") => `(tactic| first | (with_reducible refine w_seq ?_) | (with_reducible refine w_set ?_) | (with_reducible refine w_ret ?_) | (with_reducible refine w_drop ?_) | (with_reducible refine w_nx ?_) | (with_reducible refine w_bin ?_) | (with_reducible refine w_test ?_) | (with_reducible refine w_andT ?_) | (with_reducible refine w_orT ?_) | (with_reducible refine w_notT ?_) | (with_reducible refine w_and ?_) | (with_reducible refine w_nil ?_) | (with_reducible refine w_cons ?_) | (with_reducible refine w_op ?_) | (with_reducible refine w_call0 ?_) | (with_reducible refine w_sl ?_) | (with_reducible refine w_nop ?_) | (with_reducible refine w_p ?_) | (with_reducible refine w_yes ?_) | (with_reducible refine w_c ?_) | (with_reducible refine w_un ?_) | (with_reducible refine w_par ?_) | (with_reducible refine w_asg ?_) | (with_reducible refine o_add ?_) | (with_reducible refine o_sub ?_) | (with_reducible refine o_lt ?_) | (with_reducible refine o_le ?_) | (with_reducible refine o_gt ?_) | (with_reducible refine o_ge ?_) | (with_reducible refine o_eqs ?_) | (with_reducible refine o_eqi ?_) | (with_reducible refine o_eqb ?_) | (with_reducible refine o_nes ?_) | (with_reducible refine o_nei ?_) | (with_reducible refine o_isnn ?_) | (with_reducible refine o_isni ?_) | (with_reducible refine o_isns ?_) | (with_reducible refine o_min ?_) | (with_reducible refine o_int ?_) | (with_reducible refine o_neg ?_) | (with_reducible refine o_lenT ?_) | (with_reducible refine o_lenL ?_) | (with_reducible refine sq_nx ?_) | (with_reducible refine sq_rt ?_) | ((with_reducible apply w_var); focus exact rfl) | (with_reducible refine w_tup ?_) | (with_reducible refine w_lst ?_) | (with_reducible refine w_new ?_) | ((with_reducible refine sz_and ?_ ?_); focus (simp only [List.length_cons, List.length_nil, sL] <;> omega)) | (with_reducible refine w_meth ?_)  | (with_reducible refine w_dput ?_) | (with_reducible refine w_dget ?_) | (with_reducible refine w_dget2 ?_) | ((with_reducible apply ex_rfl); focus exact rfl) | (with_reducible refine o_mod (by decide) ?_))

def o3 (m s : Str) (p z : Int) : Gn.Row := .order m s p z []
def fixedR : List Gn.Rec := [
  ⟨"time", [o3 "ann" "buy" 10 3, o3 "bob" "buy" 10 2, .prints [⟨10, 1, none⟩, ⟨10, 1, some 0⟩], .prints [⟨10, 1, none⟩]]⟩,
  ⟨"late", [.closed, o3 "ann" "sell" 9 4, o3 "cy" "buy" 11 2, .prints [], o3 "bob" "sell" 9 1, .call (some 10) [(1, 1), (2, 2)], .cancel 1, .prints [⟨9, 1, some 4⟩, ⟨12, 3, none⟩]]⟩,
  ⟨"price", [o3 "ann" "sell" 9 2, .order "bob" "buy" 9 5 [⟨8, 1, none⟩, ⟨9, 2, some 0⟩], .order "ann" "sell" 9 1 [⟨9, 1, some 1⟩], .cancel 1, .prints [⟨7, 1000, none⟩]]⟩,
  ⟨"time", []⟩, ⟨"late", [.closed]⟩]
theorem run_fixed (S : Sto) : F__law_fixed_records [] S = some (.ref S.length, S ++ [.lst (fixedR.map Gn.Rec.d)]) := rfl
/-- a row of the fixed ones: by looking -/
def small (i : Int) : Bool := decide (-1000000 ≤ i) && decide (i ≤ 1000000)
def fineW (m : Str) : Bool := (m.cps.toList.all fun c => decide (c < 128)) && decide (m.length ≤ 20)
def fineF (f : Fill) : Bool := small f.p && small f.z && (match f.n with | none => true | some n => small n)
def fineR : Gn.Row → Bool
  | .order m s p z fs => fineW m && fineW s && small p && small z && fs.all fineF && decide (fs.length ≤ 8)
  | .cancel n => small n
  | .prints fs => fs.all fineF && decide (fs.length ≤ 8)
  | .closed => true
  | .call p ps => (match p with | none => true | some i => small i) && ps.all (fun q => small q.1 && small q.2) && decide (ps.length ≤ 40)
def fineG (g : Gn.Rec) : Bool := fineW g.rule && g.rows.all fineR && decide (g.rows.length ≤ 31)
theorem small_ok {i : Int} (h : small i = true) : Sm i := by
  unfold small at h
  simp only [Bool.and_eq_true, decide_eq_true_eq] at h
  exact sm_bd h.1 h.2
theorem fineW_ok {m : Str} (h : fineW m = true) : Wd m := by
  unfold fineW at h
  rw [Bool.and_eq_true, decide_eq_true_eq] at h
  exact ⟨alit m h.1, h.2⟩
theorem fineF_ok {f : Fill} (h : fineF f = true) : FOk f := by
  unfold fineF at h
  simp only [Bool.and_eq_true] at h
  refine ⟨small_ok h.1.1, small_ok h.1.2, fun i hi => ?_⟩
  have h2 := h.2
  rw [hi] at h2
  exact small_ok h2
theorem fineR_ok {r : Gn.Row} (h : fineR r = true) : ROk r := by
  cases r with
  | order m s p z fs =>
    simp only [fineR, Bool.and_eq_true, decide_eq_true_eq, List.all_eq_true] at h
    obtain ⟨⟨⟨⟨⟨h1, h2⟩, h3⟩, h4⟩, h5⟩, h6⟩ := h
    exact .order (fineW_ok h1) (fineW_ok h2) (small_ok h3) (small_ok h4) (fun f hf => fineF_ok (h5 f hf)) h6
  | cancel n => exact .cancel (small_ok h)
  | prints fs =>
    simp only [fineR, Bool.and_eq_true, decide_eq_true_eq, List.all_eq_true] at h
    exact .prints (fun f hf => fineF_ok (h.1 f hf)) h.2
  | closed => exact .closed
  | call p ps =>
    simp only [fineR, Bool.and_eq_true, decide_eq_true_eq, List.all_eq_true] at h
    refine .call (fun i hi => ?_) (fun q hq => ⟨small_ok (h.1.2 q hq).1, small_ok (h.1.2 q hq).2⟩) h.2
    have h1 := h.1.1
    rw [hi] at h1
    exact small_ok h1
theorem fineG_ok {g : Gn.Rec} (h : fineG g = true) : RecOk g := by
  simp only [fineG, Bool.and_eq_true, decide_eq_true_eq, List.all_eq_true] at h
  exact ⟨fineW_ok h.1.1, fun r hr => fineR_ok (h.1.2 r hr), h.2⟩
theorem fixed_ok : ∀ g ∈ fixedR, RecOk g := by
  have : fixedR.all fineG = true := by decide +kernel
  exact fun g hg => fineG_ok (List.all_eq_true.mp this g hg)
def longR : Gn.Rec := ⟨"price", List.replicate 30 (.prints [⟨10, 1, none⟩, ⟨9, 2, some 3⟩])⟩
theorem long_ok : RecOk longR := fineG_ok (by decide +kernel)
theorem w_srcs {r : Gs} {ρ : Rho} {S S1 : Sto} {n : Nat} (h : W2 (r ρ S) fun xs S' => xs = [.int (n : Int)] ∧ S' = S1) (hn : n ≤ 1000000) : sRng1 r ρ S = some ((List.range n).map fun (k : Nat) => .int k, none, S1) := by
  obtain ⟨xs, S', e, rfl, rfl⟩ := h
  rw [← ints0]
  unfold sRng1
  rw [e]
  dsimp only
  rw [if_pos ⟨by omega, by omega⟩]
  simp
theorem rec_closed (n : Nat) (g : Gn.Rec) : FS.closed n g.d = true := by simp only [Gn.Rec.d, FS.closed, closedL, closed_rows, Bool.and_self]
theorem recs_closed (n : Nat) (gs : List Gn.Rec) : closedL n (gs.map Gn.Rec.d) = true := closedL_of _ _ fun x _ => rec_closed n x
abbrev lots (u : MO) (gs : List Gn.Rec) : Sto := [u, .lst (gs.map Gn.Rec.d)]
theorem lots_clo {u : MO} {c : Nat} (gs : List Gn.Rec) (h : RdM u c) : Clo (lots u gs) := by
  unfold Clo
  simp only [List.all_cons, List.all_nil, h.closed, Bool.true_and, Bool.and_true]
  exact recs_closed _ _
theorem lots_add (gs : List Gn.Rec) (g : Gn.Rec) : gs.map Gn.Rec.d ++ [g.d] = (gs ++ [g]).map Gn.Rec.d := by
  rw [List.map_append]
  rfl
theorem rule_wd {s : Str} (h : Rule s) : Wd s := by
  rcases h with rfl | rfl | rfl <;> exact fineW_ok (by decide +kernel)
theorem same_str (x : Str) : (!(x == x)) = false := by simp
theorem law_run (ns : List Int) : W2 (runFn 1 8 b_law [.scr (ns.map D.int)] []) fun d _ => d = .bl true := by
  obtain ⟨u0, e0, hu0⟩ := run_reader (S := []) ns
  refine w_run rfl ?_
  unfold b_law
  refine w_mid (fun ρ1 S1 => ρ1 = [some (.scr (ns.map D.int)), some (.ref 0), none, none, none, none, none, none] ∧ S1 = [u0]) ?_ ?_
  · repeat walk_at "v"
    refine w2 e0 ?_
    exact ⟨rfl, rfl, rfl⟩
  rintro ρ1 S1 ⟨rfl, rfl⟩
  refine w_mid (fun ρ1 S1 => ρ1 = [some (.scr (ns.map D.int)), some (.ref 0), some (.ref 1), none, none, none, none, none] ∧ S1 = lots u0 fixedR) ?_ ?_
  · repeat walk_at "v"
    refine w2 (run_fixed _) ?_
    exact ⟨rfl, rfl, rfl⟩
  rintro ρ1 S1 ⟨rfl, rfl⟩
  refine w_mid (fun ρ1 S1 => ∃ (x3 : Option D) (u : MO) (gs : List Gn.Rec), ρ1 = [some (.scr (ns.map D.int)), some (.ref 0), some (.ref 1), x3, none, none, none, none] ∧ S1 = lots u gs ∧ RdM u 5000 ∧ (∀ g ∈ gs, RecOk g) ∧ gs.length ≤ 100) ?_ ?_
  · refine w_forr (S1 := lots u0 fixedR) 5 (fun k ρ1 S1 => ∃ (x3 : Option D) (u : MO) (gs : List Gn.Rec), ρ1 = [some (.scr (ns.map D.int)), some (.ref 0), some (.ref 1), x3, none, none, none, none] ∧ S1 = lots u gs ∧ RdM u (1000 * k) ∧ (∀ g ∈ gs, RecOk g) ∧ gs.length ≤ 5 + 2 * k) ?_ ⟨none, u0, fixedR, rfl, rfl, hu0, fixed_ok, Nat.le_refl _⟩ ?_ ?_
    · refine w_src (n := 5) ?_ (by decide)
      repeat walk_at "v"
      exact ⟨rfl, rfl⟩
    · rintro k hk ρ S1 ⟨x3, u, gs, rfl, rfl, hu, hgs, hgl⟩
      refine ⟨_, rfl, ?_⟩
      refine w_mid (fun ρ1 S1 => ∃ (u : MO) (gs : List Gn.Rec), ρ1 = [some (.scr (ns.map D.int)), some (.ref 0), some (.ref 1), some (.int k), none, none, none, none] ∧ S1 = lots u gs ∧ RdM u (1000 * k + 483) ∧ (∀ g ∈ gs, RecOk g) ∧ gs.length ≤ 6 + 2 * k) ?_ ?_
      · repeat walk_at "v"
        refine ⟨isL_at (n := 1) rfl, ?_⟩
        repeat walk_at "v"
        obtain ⟨g, u1, e1, hu1, hb, hl, hru⟩ := run_random_record (S := lots u gs) (r := 0) (most := 8) (lots_clo gs hu) rfl hu (by decide) (by omega)
        refine w2 e1 ?_
        repeat walk_at "v"
        refine w2 (app_to (n := 1) (xs := gs.map Gn.Rec.d) rfl ?_) ?_
        · rw [List.length_map, sL]; omega
        · rw [lots_add]
          refine ⟨rfl, u1, gs ++ [g], rfl, rfl, hu1.mono (by omega), fun g' hg' => ?_, by rw [List.length_append, List.length_singleton]; omega⟩
          rcases List.mem_append.mp hg' with hg' | hg'
          · exact hgs g' hg'
          · rw [List.mem_singleton] at hg'
            subst hg'
            exact ⟨rule_wd hru, fun r hr => (hb.gr (by omega) r hr).ok, by omega⟩
      · rintro ρ1 S1 ⟨u1, gs1, rfl, rfl, hu1, hgs1, hgl1⟩
        repeat walk_at "v"
        refine ⟨isL_at (n := 1) rfl, ?_⟩
        repeat walk_at "u"
        obtain ⟨i2, u2, e2, hu2, h20, h21⟩ := run_draw (S := lots u1 gs1) (r := 0) (many := 5) (lots_clo gs1 hu1) rfl hu1 (by omega) (by decide) (by decide)
        obtain ⟨n2, rfl⟩ : ∃ n2 : Nat, i2 = n2 := ⟨i2.toNat, by omega⟩
        refine w_lcst (S1 := lots u2 gs1) (fun (k : Nat) => .int k) Gn.Row.d (List.range n2) none (fun pre acc S1 => ∃ u3, S1 = lots u3 gs1 ∧ RdM u3 (1000 * k + 484 + 40 * pre.length) ∧ acc.length = pre.length ∧ ∀ x ∈ acc, ROk x) (w_srcs ?_ (by omega)) ⟨u2, rfl, hu2, rfl, fun x hx => by cases hx⟩ ?_ ?_
        · repeat walk_at "v"
          refine w2 e2 ?_
          repeat walk_at "v"
          exact ⟨rfl, rfl⟩
        · rintro pre j post acc S1 e ⟨u3, rfl, hu3, ha, hb⟩
          have hl := (range_pre e).1
          have hl2 := (range_pre e).2
          have hl3 : pre.length = j := by rw [hl, List.length_range]
          refine ⟨_, rfl, ?_⟩
          repeat walk_at "v"
          obtain ⟨x, u4, e4, hu4, hx⟩ := run_loose_row (S := lots u3 gs1) (r := 0) (lots_clo gs1 hu3) rfl hu3 (by omega)
          refine w2 e4 ⟨x, rfl, rfl, u4, rfl, hu4.mono (by rw [List.length_append, List.length_singleton]; omega), by rw [List.length_append, List.length_append, ha]; rfl, fun y hy => ?_⟩
          rcases List.mem_append.mp hy with hy | hy
          · exact hb y hy
          · rw [List.mem_singleton] at hy
            subst hy
            exact hx
        · rintro acc S1 ⟨u3, rfl, hu3, ha, hb⟩
          rw [List.length_range] at ha hu3
          repeat walk_at "v"
          refine w1 (tupleO_sq rfl) ?_
          repeat walk_at "v"
          refine w2 (app_to (n := 1) (xs := gs1.map Gn.Rec.d) rfl ?_) ?_
          · rw [List.length_map, sL]; omega
          · rw [show (D.tup [.str "late", .tup (acc.map Gn.Row.d)]) = Gn.Rec.d ⟨"late", acc⟩ from rfl, lots_add]
            refine ⟨.inl rfl, _, u3, gs1 ++ [⟨"late", acc⟩], rfl, rfl, hu3.mono (by omega), fun g' hg' => ?_, by rw [List.length_append, List.length_singleton]; omega⟩
            rcases List.mem_append.mp hg' with hg' | hg'
            · exact hgs1 g' hg'
            · rw [List.mem_singleton] at hg'
              subst hg'
              exact ⟨rule_wd (.inr (.inl rfl)), hb, by show acc.length ≤ 31; omega⟩
    · rintro ρ' S' ⟨x3, u, gs, rfl, rfl, hu, hgs, hgl⟩
      exact ⟨rfl, x3, u, gs, rfl, rfl, hu, hgs, by omega⟩
  rintro ρ1 S1 ⟨x3, u, gs0, rfl, rfl, hu, hgs0, hgl0⟩
  refine w_mid (fun ρ1 S1 => ∃ (gs : List Gn.Rec), ρ1 = [some (.scr (ns.map D.int)), some (.ref 0), some (.ref 1), x3, none, none, none, none] ∧ S1 = lots u gs ∧ (∀ g ∈ gs, RecOk g)) ?_ ?_
  · repeat walk_at "v"
    refine ⟨isL_at (n := 1) rfl, ?_⟩
    repeat walk_at "v"
    refine w1 (a := .tup (longR.rows.map Gn.Row.d)) rfl ?_
    repeat walk_at "v"
    refine w2 (app_to (n := 1) (xs := gs0.map Gn.Rec.d) rfl ?_) ?_
    · rw [List.length_map, sL]; omega
    · rw [show (D.tup [.str "price", .tup (longR.rows.map Gn.Row.d)]) = longR.d from rfl, lots_add]
      refine ⟨rfl, gs0 ++ [longR], rfl, rfl, fun g' hg' => ?_⟩
      rcases List.mem_append.mp hg' with hg' | hg'
      · exact hgs0 g' hg'
      · rw [List.mem_singleton] at hg'
        subst hg'
        exact long_ok
  rintro ρ1 S1 ⟨gs, rfl, rfl, hgs⟩
  have cS : Clo (lots u gs) := lots_clo gs hu
  (with_reducible refine w_seq ?_)
  refine w_fors (S1 := lots u gs) Gn.Rec.d gs (some 1) (fun pre ρ S1 => ∃ x4 x5 x6, ρ = [some (.scr (ns.map D.int)), some (.ref 0), some (.ref 1), x3, x4, x5, x6, none] ∧ S1 = lots u gs) (src_ref (m := 1) rfl rfl) ⟨_, _, _, rfl, rfl⟩ ?_ ?_
  · rintro pre g post e ρ S1 ⟨x4, x5, x6, rfl, rfl⟩
    have hg : RecOk g := hgs g (by rw [e]; simp)
    refine ⟨_, rfl, ?_⟩
    repeat walk_at "v"
    refine w1 (run_repr (rec_nice hg) (by decide) (by decide)) ?_
    repeat walk_at "v"
    refine w_ifs ?_
    repeat walk_at "v"
    refine w2 (run_record_text cS hg) ?_
    repeat walk_at "v"
    refine w1 (run_repr (recT_nice hg) (by decide) (by decide)) ?_
    repeat walk_at "v"
    refine w2 (run_law_page cS hg) ?_
    repeat walk_at "v"
    refine w1 (run_repr (recT_nice hg) (by decide) (by decide)) ?_
    repeat walk_at "v"
    rw [same_str]
    refine ⟨fun h => (by cases h), fun _ => ?_⟩
    repeat walk_at "v"
    refine w_fors (S1 := lots u gs) Gn.Row.d g.rows none (fun pre ρ S1 => ∃ x6, ρ = [some (.scr (ns.map D.int)), some (.ref 0), some (.ref 1), x3, some g.d, some (.str (rep g.d)), x6, none] ∧ S1 = lots u gs) (w_seqT ?_) ⟨_, rfl, rfl⟩ ?_ ?_
    · repeat walk_at "v"
      exact w1 (ix1 _ _ _ _) ⟨rfl, rfl⟩
    · rintro pre2 r post2 e2 ρ S1 ⟨x6, rfl, rfl⟩
      have hr : ROk r := hg.rows r (by rw [e2]; simp)
      refine ⟨_, rfl, ?_⟩
      refine w_ifs ?_
      repeat walk_at "v"
      refine w2 (run_row_text cS hr) ?_
      repeat walk_at "v"
      refine w1 (run_repr (rowT_nice hr) (by decide) (by decide)) ?_
      repeat walk_at "v"
      refine ⟨rfl, ?_⟩
      repeat walk_at "v"
      refine w2 (run_law_row_words cS hr) ?_
      repeat walk_at "v"
      refine w2 (row_join hr) ?_
      repeat walk_at "v"
      refine w1 (run_repr (rowT_nice hr) (by decide) (by decide)) ?_
      repeat walk_at "v"
      rw [same_str]
      refine ⟨fun h => (by cases h), fun _ => ?_⟩
      repeat walk_at "v"
      exact ⟨.inl rfl, rfl, _, rfl, rfl⟩
    · rintro ρ' S' ⟨x6, rfl, rfl⟩
      repeat walk_at "v"
      refine w_ifs ?_
      repeat walk_at "v"
      refine w1 (run_repr (rec_nice hg) (by decide) (by decide)) ?_
      repeat walk_at "v"
      rw [same_str]
      refine ⟨fun h => (by cases h), fun _ => ?_⟩
      repeat walk_at "v"
      exact ⟨.inl rfl, still_at (n := 1) rfl, _, _, _, rfl, rfl⟩
  · rintro ρ' S' ⟨x4, x5, x6, rfl, rfl⟩
    repeat walk_at "v"
    first | rfl | exact ⟨_, rfl, rfl⟩
theorem law_true (ns : List Int) (_ : ns.length ≤ 63) : ∃ S', F_law [.scr (ns.map D.int)] [] = some (.bl true, S') := by
  obtain ⟨d, S', e, rfl⟩ := law_run ns
  exact ⟨_, settled_to (S1 := []) (T := S') (by rw [List.nil_append]; exact e) rfl Clo.nil rfl⟩
end K8
set_option Elab.async false
set_option linter.all false
set_option maxRecDepth 100000
set_option maxHeartbeats 4000000
namespace K8
open PySem PySem.Spec PyProof.Rows L2 FS
/-! ### from the head -/
def all_mk {K : PySem.W.Frag} {h : Heap} {mg : Str → Option Value} (X : K.In h) (G : h.Ns mainGlobals mg)
    {f0 : Addr} {od0 an0 : Option Addr} {sl0 : Array (Option Value)} {oc0 kV0 dc0 pm0 cd0 ct0 : Value}
    {f1 : Addr} {od1 an1 : Option Addr} {sl1 : Array (Option Value)} {oc1 kV1 dc1 pm1 cd1 ct1 : Value}
    {f2 : Addr} {od2 an2 : Option Addr} {sl2 : Array (Option Value)} {oc2 kV2 dc2 pm2 cd2 ct2 : Value}
    {f3 : Addr} {od3 an3 : Option Addr} {sl3 : Array (Option Value)} {oc3 kV3 dc3 pm3 cd3 ct3 : Value}
    {f4 : Addr} {od4 an4 : Option Addr} {sl4 : Array (Option Value)} {oc4 kV4 dc4 pm4 cd4 ct4 : Value}
    {f5 : Addr} {od5 an5 : Option Addr} {sl5 : Array (Option Value)} {oc5 kV5 dc5 pm5 cd5 ct5 : Value}
    {f6 : Addr} {od6 an6 : Option Addr} {sl6 : Array (Option Value)} {oc6 kV6 dc6 pm6 cd6 ct6 : Value}
    {f7 : Addr} {od7 an7 : Option Addr} {sl7 : Array (Option Value)} {oc7 kV7 dc7 pm7 cd7 ct7 : Value}
    {f8 : Addr} {od8 an8 : Option Addr} {sl8 : Array (Option Value)} {oc8 kV8 dc8 pm8 cd8 ct8 : Value}
    {f9 : Addr} {od9 an9 : Option Addr} {sl9 : Array (Option Value)} {oc9 kV9 dc9 pm9 cd9 ct9 : Value}
    {f10 : Addr} {od10 an10 : Option Addr} {sl10 : Array (Option Value)} {oc10 kV10 dc10 pm10 cd10 ct10 : Value}
    {f11 : Addr} {od11 an11 : Option Addr} {sl11 : Array (Option Value)} {oc11 kV11 dc11 pm11 cd11 ct11 : Value}
    {f12 : Addr} {od12 an12 : Option Addr} {sl12 : Array (Option Value)} {oc12 kV12 dc12 pm12 cd12 ct12 : Value}
    {f13 : Addr} {od13 an13 : Option Addr} {sl13 : Array (Option Value)} {oc13 kV13 dc13 pm13 cd13 ct13 : Value}
    {f14 : Addr} {od14 an14 : Option Addr} {sl14 : Array (Option Value)} {oc14 kV14 dc14 pm14 cd14 ct14 : Value}
    {f15 : Addr} {od15 an15 : Option Addr} {sl15 : Array (Option Value)} {oc15 kV15 dc15 pm15 cd15 ct15 : Value}
    {f16 : Addr} {od16 an16 : Option Addr} {sl16 : Array (Option Value)} {oc16 kV16 dc16 pm16 cd16 ct16 : Value}
    {f17 : Addr} {od17 an17 : Option Addr} {sl17 : Array (Option Value)} {oc17 kV17 dc17 pm17 cd17 ct17 : Value}
    {f18 : Addr} {od18 an18 : Option Addr} {sl18 : Array (Option Value)} {oc18 kV18 dc18 pm18 cd18 ct18 : Value}
    {f19 : Addr} {od19 an19 : Option Addr} {sl19 : Array (Option Value)} {oc19 kV19 dc19 pm19 cd19 ct19 : Value}
    {f20 : Addr} {od20 an20 : Option Addr} {sl20 : Array (Option Value)} {oc20 kV20 dc20 pm20 cd20 ct20 : Value}
    {f21 : Addr} {od21 an21 : Option Addr} {sl21 : Array (Option Value)} {oc21 kV21 dc21 pm21 cd21 ct21 : Value}
    {f22 : Addr} {od22 an22 : Option Addr} {sl22 : Array (Option Value)} {oc22 kV22 dc22 pm22 cd22 ct22 : Value}
    {t0 : Tok}
    (a0 : PySem.W.nsIn K mainGlobals "order_word" = some (some (.ref f0))) (l0 : K.lookup f0 = some ⟨oc0, od0, .func (PySem.W.fnOf "order_word" "order_word" (defArgs s_order_word) (defBody s_order_word) (defScope s_order_word) .none kV0 dc0 pm0 an0 cd0 ct0), sl0⟩) (c0 : PySem.W.codeIn K cd0 "order_word" = true) (k0 : PySem.W.keepIn K (.ref f0) = true)
    (a1 : PySem.W.nsIn K mainGlobals "fill_words" = some (some (.ref f1))) (l1 : K.lookup f1 = some ⟨oc1, od1, .func (PySem.W.fnOf "fill_words" "fill_words" (defArgs s_fill_words) (defBody s_fill_words) (defScope s_fill_words) .none kV1 dc1 pm1 an1 cd1 ct1), sl1⟩) (c1 : PySem.W.codeIn K cd1 "fill_words" = true) (k1 : PySem.W.keepIn K (.ref f1) = true)
    (a2 : PySem.W.nsIn K mainGlobals "row_words" = some (some (.ref f2))) (l2 : K.lookup f2 = some ⟨oc2, od2, .func (PySem.W.fnOf "row_words" "row_words" (defArgs s_row_words) (defBody s_row_words) (defScope s_row_words) .none kV2 dc2 pm2 an2 cd2 ct2), sl2⟩) (c2 : PySem.W.codeIn K cd2 "row_words" = true) (k2 : PySem.W.keepIn K (.ref f2) = true)
    (a3 : PySem.W.nsIn K mainGlobals "row_text" = some (some (.ref f3))) (l3 : K.lookup f3 = some ⟨oc3, od3, .func (PySem.W.fnOf "row_text" "row_text" (defArgs s_row_text) (defBody s_row_text) (defScope s_row_text) .none kV3 dc3 pm3 an3 cd3 ct3), sl3⟩) (c3 : PySem.W.codeIn K cd3 "row_text" = true) (k3 : PySem.W.keepIn K (.ref f3) = true)
    (a4 : PySem.W.nsIn K mainGlobals "record_text" = some (some (.ref f4))) (l4 : K.lookup f4 = some ⟨oc4, od4, .func (PySem.W.fnOf "record_text" "record_text" (defArgs s_record_text) (defBody s_record_text) (defScope s_record_text) .none kV4 dc4 pm4 an4 cd4 ct4), sl4⟩) (c4 : PySem.W.codeIn K cd4 "record_text" = true) (k4 : PySem.W.keepIn K (.ref f4) = true)
    (a5 : PySem.W.nsIn K mainGlobals "_law_reader" = some (some (.ref f5))) (l5 : K.lookup f5 = some ⟨oc5, od5, .func (PySem.W.fnOf "_law_reader" "_law_reader" (defArgs s__law_reader) (defBody s__law_reader) (defScope s__law_reader) .none kV5 dc5 pm5 an5 cd5 ct5), sl5⟩) (c5 : PySem.W.codeIn K cd5 "_law_reader" = true) (k5 : PySem.W.keepIn K (.ref f5) = true)
    (a6 : PySem.W.nsIn K mainGlobals "_law_draw" = some (some (.ref f6))) (l6 : K.lookup f6 = some ⟨oc6, od6, .func (PySem.W.fnOf "_law_draw" "_law_draw" (defArgs s__law_draw) (defBody s__law_draw) (defScope s__law_draw) .none kV6 dc6 pm6 an6 cd6 ct6), sl6⟩) (c6 : PySem.W.codeIn K cd6 "_law_draw" = true) (k6 : PySem.W.keepIn K (.ref f6) = true)
    (a7 : PySem.W.nsIn K mainGlobals "_law_fills" = some (some (.ref f7))) (l7 : K.lookup f7 = some ⟨oc7, od7, .func (PySem.W.fnOf "_law_fills" "_law_fills" (defArgs s__law_fills) (defBody s__law_fills) (defScope s__law_fills) .none kV7 dc7 pm7 an7 cd7 ct7), sl7⟩) (c7 : PySem.W.codeIn K cd7 "_law_fills" = true) (k7 : PySem.W.keepIn K (.ref f7) = true)
    (a8 : PySem.W.nsIn K mainGlobals "_law_trades" = some (some (.ref f8))) (l8 : K.lookup f8 = some ⟨oc8, od8, .func (PySem.W.fnOf "_law_trades" "_law_trades" (defArgs s__law_trades) (defBody s__law_trades) (defScope s__law_trades) .none kV8 dc8 pm8 an8 cd8 ct8), sl8⟩) (c8 : PySem.W.codeIn K cd8 "_law_trades" = true) (k8 : PySem.W.keepIn K (.ref f8) = true)
    (a9 : PySem.W.nsIn K mainGlobals "_law_rest" = some (some (.ref f9))) (l9 : K.lookup f9 = some ⟨oc9, od9, .func (PySem.W.fnOf "_law_rest" "_law_rest" (defArgs s__law_rest) (defBody s__law_rest) (defScope s__law_rest) .none kV9 dc9 pm9 an9 cd9 ct9), sl9⟩) (c9 : PySem.W.codeIn K cd9 "_law_rest" = true) (k9 : PySem.W.keepIn K (.ref f9) = true)
    (a10 : PySem.W.nsIn K mainGlobals "_law_orders" = some (some (.ref f10))) (l10 : K.lookup f10 = some ⟨oc10, od10, .func (PySem.W.fnOf "_law_orders" "_law_orders" (defArgs s__law_orders) (defBody s__law_orders) (defScope s__law_orders) .none kV10 dc10 pm10 an10 cd10 ct10), sl10⟩) (c10 : PySem.W.codeIn K cd10 "_law_orders" = true) (k10 : PySem.W.keepIn K (.ref f10) = true)
    (a11 : PySem.W.nsIn K mainGlobals "_law_open" = some (some (.ref f11))) (l11 : K.lookup f11 = some ⟨oc11, od11, .func (PySem.W.fnOf "_law_open" "_law_open" (defArgs s__law_open) (defBody s__law_open) (defScope s__law_open) .none kV11 dc11 pm11 an11 cd11 ct11), sl11⟩) (c11 : PySem.W.codeIn K cd11 "_law_open" = true) (k11 : PySem.W.keepIn K (.ref f11) = true)
    (a12 : PySem.W.nsIn K mainGlobals "_law_is_shut" = some (some (.ref f12))) (l12 : K.lookup f12 = some ⟨oc12, od12, .func (PySem.W.fnOf "_law_is_shut" "_law_is_shut" (defArgs s__law_is_shut) (defBody s__law_is_shut) (defScope s__law_is_shut) .none kV12 dc12 pm12 an12 cd12 ct12), sl12⟩) (c12 : PySem.W.codeIn K cd12 "_law_is_shut" = true) (k12 : PySem.W.keepIn K (.ref f12) = true)
    (a13 : PySem.W.nsIn K mainGlobals "_law_new_fills" = some (some (.ref f13))) (l13 : K.lookup f13 = some ⟨oc13, od13, .func (PySem.W.fnOf "_law_new_fills" "_law_new_fills" (defArgs s__law_new_fills) (defBody s__law_new_fills) (defScope s__law_new_fills) .none kV13 dc13 pm13 an13 cd13 ct13), sl13⟩) (c13 : PySem.W.codeIn K cd13 "_law_new_fills" = true) (k13 : PySem.W.keepIn K (.ref f13) = true)
    (a14 : PySem.W.nsIn K mainGlobals "_law_new_row" = some (some (.ref f14))) (l14 : K.lookup f14 = some ⟨oc14, od14, .func (PySem.W.fnOf "_law_new_row" "_law_new_row" (defArgs s__law_new_row) (defBody s__law_new_row) (defScope s__law_new_row) .none kV14 dc14 pm14 an14 cd14 ct14), sl14⟩) (c14 : PySem.W.codeIn K cd14 "_law_new_row" = true) (k14 : PySem.W.keepIn K (.ref f14) = true)
    (a15 : PySem.W.nsIn K mainGlobals "_law_random_rows" = some (some (.ref f15))) (l15 : K.lookup f15 = some ⟨oc15, od15, .func (PySem.W.fnOf "_law_random_rows" "_law_random_rows" (defArgs s__law_random_rows) (defBody s__law_random_rows) (defScope s__law_random_rows) .none kV15 dc15 pm15 an15 cd15 ct15), sl15⟩) (c15 : PySem.W.codeIn K cd15 "_law_random_rows" = true) (k15 : PySem.W.keepIn K (.ref f15) = true)
    (a16 : PySem.W.nsIn K mainGlobals "_law_random_record" = some (some (.ref f16))) (l16 : K.lookup f16 = some ⟨oc16, od16, .func (PySem.W.fnOf "_law_random_record" "_law_random_record" (defArgs s__law_random_record) (defBody s__law_random_record) (defScope s__law_random_record) .none kV16 dc16 pm16 an16 cd16 ct16), sl16⟩) (c16 : PySem.W.codeIn K cd16 "_law_random_record" = true) (k16 : PySem.W.keepIn K (.ref f16) = true)
    (a17 : PySem.W.nsIn K mainGlobals "_law_fixed_records" = some (some (.ref f17))) (l17 : K.lookup f17 = some ⟨oc17, od17, .func (PySem.W.fnOf "_law_fixed_records" "_law_fixed_records" (defArgs s__law_fixed_records) (defBody s__law_fixed_records) (defScope s__law_fixed_records) .none kV17 dc17 pm17 an17 cd17 ct17), sl17⟩) (c17 : PySem.W.codeIn K cd17 "_law_fixed_records" = true) (k17 : PySem.W.keepIn K (.ref f17) = true)
    (a18 : PySem.W.nsIn K mainGlobals "_law_fill_word" = some (some (.ref f18))) (l18 : K.lookup f18 = some ⟨oc18, od18, .func (PySem.W.fnOf "_law_fill_word" "_law_fill_word" (defArgs s__law_fill_word) (defBody s__law_fill_word) (defScope s__law_fill_word) .none kV18 dc18 pm18 an18 cd18 ct18), sl18⟩) (c18 : PySem.W.codeIn K cd18 "_law_fill_word" = true) (k18 : PySem.W.keepIn K (.ref f18) = true)
    (a19 : PySem.W.nsIn K mainGlobals "_law_row_words" = some (some (.ref f19))) (l19 : K.lookup f19 = some ⟨oc19, od19, .func (PySem.W.fnOf "_law_row_words" "_law_row_words" (defArgs s__law_row_words) (defBody s__law_row_words) (defScope s__law_row_words) .none kV19 dc19 pm19 an19 cd19 ct19), sl19⟩) (c19 : PySem.W.codeIn K cd19 "_law_row_words" = true) (k19 : PySem.W.keepIn K (.ref f19) = true)
    (a20 : PySem.W.nsIn K mainGlobals "_law_page" = some (some (.ref f20))) (l20 : K.lookup f20 = some ⟨oc20, od20, .func (PySem.W.fnOf "_law_page" "_law_page" (defArgs s__law_page) (defBody s__law_page) (defScope s__law_page) .none kV20 dc20 pm20 an20 cd20 ct20), sl20⟩) (c20 : PySem.W.codeIn K cd20 "_law_page" = true) (k20 : PySem.W.keepIn K (.ref f20) = true)
    (a21 : PySem.W.nsIn K mainGlobals "_law_loose_row" = some (some (.ref f21))) (l21 : K.lookup f21 = some ⟨oc21, od21, .func (PySem.W.fnOf "_law_loose_row" "_law_loose_row" (defArgs s__law_loose_row) (defBody s__law_loose_row) (defScope s__law_loose_row) .none kV21 dc21 pm21 an21 cd21 ct21), sl21⟩) (c21 : PySem.W.codeIn K cd21 "_law_loose_row" = true) (k21 : PySem.W.keepIn K (.ref f21) = true)
    (a22 : PySem.W.nsIn K mainGlobals "law" = some (some (.ref f22))) (l22 : K.lookup f22 = some ⟨oc22, od22, .func (PySem.W.fnOf "law" "law" (defArgs s_law) (defBody s_law) (defScope s_law) .none kV22 dc22 pm22 an22 cd22 ct22), sl22⟩) (c22 : PySem.W.codeIn K cd22 "law" = true) (k22 : PySem.W.keepIn K (.ref f22) = true)
    (v0 : PySem.W.nsIn K mainGlobals "NOBODY" = some (some (.str "-" t0)))
    (z0 : PySem.W.nsIn K mainGlobals "int" = some none)
    (z1 : PySem.W.nsIn K mainGlobals "len" = some none)
    (z2 : PySem.W.nsIn K mainGlobals "list" = some none)
    (z3 : PySem.W.nsIn K mainGlobals "min" = some none)
    (z4 : PySem.W.nsIn K mainGlobals "range" = some none)
    (z5 : PySem.W.nsIn K mainGlobals "repr" = some none)
    (z6 : PySem.W.nsIn K mainGlobals "str" = some none)
    (z7 : PySem.W.nsIn K mainGlobals "sum" = some none)
    (z8 : PySem.W.nsIn K mainGlobals "tuple" = some none) : Txt K mg where
  f_order_word := f0
  fd_order_word := _
  F_order_word := fun_mk l0 c0 k0
  g_order_word := PySem.W.mg_of X G a0
  b_order_word := (fun_mk (st := s_order_word) l0 c0 k0).binds (ps := ["n"]) fun _ _ _ _ _ _ us hl => match us, hl with | [_], _ => rfl
  f_fill_words := f1
  fd_fill_words := _
  F_fill_words := fun_mk l1 c1 k1
  g_fill_words := PySem.W.mg_of X G a1
  b_fill_words := (fun_mk (st := s_fill_words) l1 c1 k1).binds (ps := ["fills"]) fun _ _ _ _ _ _ us hl => match us, hl with | [_], _ => rfl
  f_row_words := f2
  fd_row_words := _
  F_row_words := fun_mk l2 c2 k2
  g_row_words := PySem.W.mg_of X G a2
  b_row_words := (fun_mk (st := s_row_words) l2 c2 k2).binds (ps := ["row"]) fun _ _ _ _ _ _ us hl => match us, hl with | [_], _ => rfl
  f_row_text := f3
  fd_row_text := _
  F_row_text := fun_mk l3 c3 k3
  g_row_text := PySem.W.mg_of X G a3
  b_row_text := (fun_mk (st := s_row_text) l3 c3 k3).binds (ps := ["row"]) fun _ _ _ _ _ _ us hl => match us, hl with | [_], _ => rfl
  f_record_text := f4
  fd_record_text := _
  F_record_text := fun_mk l4 c4 k4
  g_record_text := PySem.W.mg_of X G a4
  b_record_text := (fun_mk (st := s_record_text) l4 c4 k4).binds (ps := ["record"]) fun _ _ _ _ _ _ us hl => match us, hl with | [_], _ => rfl
  f__law_reader := f5
  fd__law_reader := _
  F__law_reader := fun_mk l5 c5 k5
  g__law_reader := PySem.W.mg_of X G a5
  b__law_reader := (fun_mk (st := s__law_reader) l5 c5 k5).binds (ps := ["_law_script"]) fun _ _ _ _ _ _ us hl => match us, hl with | [_], _ => rfl
  f__law_draw := f6
  fd__law_draw := _
  F__law_draw := fun_mk l6 c6 k6
  g__law_draw := PySem.W.mg_of X G a6
  b__law_draw := (fun_mk (st := s__law_draw) l6 c6 k6).binds (ps := ["_law_reader_here", "_law_many"]) fun _ _ _ _ _ _ us hl => match us, hl with | [_, _], _ => rfl
  f__law_fills := f7
  fd__law_fills := _
  F__law_fills := fun_mk l7 c7 k7
  g__law_fills := PySem.W.mg_of X G a7
  b__law_fills := (fun_mk (st := s__law_fills) l7 c7 k7).binds (ps := ["_law_row"]) fun _ _ _ _ _ _ us hl => match us, hl with | [_], _ => rfl
  f__law_trades := f8
  fd__law_trades := _
  F__law_trades := fun_mk l8 c8 k8
  g__law_trades := PySem.W.mg_of X G a8
  b__law_trades := (fun_mk (st := s__law_trades) l8 c8 k8).binds (ps := ["_law_rows", "_law_t", "_law_i"]) fun _ _ _ _ _ _ us hl => match us, hl with | [_, _, _], _ => rfl
  f__law_rest := f9
  fd__law_rest := _
  F__law_rest := fun_mk l9 c9 k9
  g__law_rest := PySem.W.mg_of X G a9
  b__law_rest := (fun_mk (st := s__law_rest) l9 c9 k9).binds (ps := ["_law_rows", "_law_n", "_law_t", "_law_i"]) fun _ _ _ _ _ _ us hl => match us, hl with | [_, _, _, _], _ => rfl
  f__law_orders := f10
  fd__law_orders := _
  F__law_orders := fun_mk l10 c10 k10
  g__law_orders := PySem.W.mg_of X G a10
  b__law_orders := (fun_mk (st := s__law_orders) l10 c10 k10).binds (ps := ["_law_rows"]) fun _ _ _ _ _ _ us hl => match us, hl with | [_], _ => rfl
  f__law_open := f11
  fd__law_open := _
  F__law_open := fun_mk l11 c11 k11
  g__law_open := PySem.W.mg_of X G a11
  b__law_open := (fun_mk (st := s__law_open) l11 c11 k11).binds (ps := ["_law_rows", "_law_t", "_law_i"]) fun _ _ _ _ _ _ us hl => match us, hl with | [_, _, _], _ => rfl
  f__law_is_shut := f12
  fd__law_is_shut := _
  F__law_is_shut := fun_mk l12 c12 k12
  g__law_is_shut := PySem.W.mg_of X G a12
  b__law_is_shut := (fun_mk (st := s__law_is_shut) l12 c12 k12).binds (ps := ["_law_rows", "_law_t"]) fun _ _ _ _ _ _ us hl => match us, hl with | [_, _], _ => rfl
  f__law_new_fills := f13
  fd__law_new_fills := _
  F__law_new_fills := fun_mk l13 c13 k13
  g__law_new_fills := PySem.W.mg_of X G a13
  b__law_new_fills := (fun_mk (st := s__law_new_fills) l13 c13 k13).binds (ps := ["_law_reader_here", "_law_rows", "_law_most", "_law_left", "_law_side", "_law_limit"]) fun _ _ _ _ _ _ us hl => match us, hl with | [_, _, _, _, _, _], _ => rfl
  f__law_new_row := f14
  fd__law_new_row := _
  F__law_new_row := fun_mk l14 c14 k14
  g__law_new_row := PySem.W.mg_of X G a14
  b__law_new_row := (fun_mk (st := s__law_new_row) l14 c14 k14).binds (ps := ["_law_reader_here", "_law_rows"]) fun _ _ _ _ _ _ us hl => match us, hl with | [_, _], _ => rfl
  f__law_random_rows := f15
  fd__law_random_rows := _
  F__law_random_rows := fun_mk l15 c15 k15
  g__law_random_rows := PySem.W.mg_of X G a15
  b__law_random_rows := (fun_mk (st := s__law_random_rows) l15 c15 k15).binds (ps := ["_law_reader_here", "_law_most"]) fun _ _ _ _ _ _ us hl => match us, hl with | [_, _], _ => rfl
  f__law_random_record := f16
  fd__law_random_record := _
  F__law_random_record := fun_mk l16 c16 k16
  g__law_random_record := PySem.W.mg_of X G a16
  b__law_random_record := (fun_mk (st := s__law_random_record) l16 c16 k16).binds (ps := ["_law_reader_here", "_law_most"]) fun _ _ _ _ _ _ us hl => match us, hl with | [_, _], _ => rfl
  f__law_fixed_records := f17
  fd__law_fixed_records := _
  F__law_fixed_records := fun_mk l17 c17 k17
  g__law_fixed_records := PySem.W.mg_of X G a17
  b__law_fixed_records := (fun_mk (st := s__law_fixed_records) l17 c17 k17).binds (ps := []) fun _ _ _ _ _ _ us hl => match us, hl with | [], _ => rfl
  f__law_fill_word := f18
  fd__law_fill_word := _
  F__law_fill_word := fun_mk l18 c18 k18
  g__law_fill_word := PySem.W.mg_of X G a18
  b__law_fill_word := (fun_mk (st := s__law_fill_word) l18 c18 k18).binds (ps := ["_law_fill"]) fun _ _ _ _ _ _ us hl => match us, hl with | [_], _ => rfl
  f__law_row_words := f19
  fd__law_row_words := _
  F__law_row_words := fun_mk l19 c19 k19
  g__law_row_words := PySem.W.mg_of X G a19
  b__law_row_words := (fun_mk (st := s__law_row_words) l19 c19 k19).binds (ps := ["_law_row"]) fun _ _ _ _ _ _ us hl => match us, hl with | [_], _ => rfl
  f__law_page := f20
  fd__law_page := _
  F__law_page := fun_mk l20 c20 k20
  g__law_page := PySem.W.mg_of X G a20
  b__law_page := (fun_mk (st := s__law_page) l20 c20 k20).binds (ps := ["_law_good"]) fun _ _ _ _ _ _ us hl => match us, hl with | [_], _ => rfl
  f__law_loose_row := f21
  fd__law_loose_row := _
  F__law_loose_row := fun_mk l21 c21 k21
  g__law_loose_row := PySem.W.mg_of X G a21
  b__law_loose_row := (fun_mk (st := s__law_loose_row) l21 c21 k21).binds (ps := ["_law_reader_here"]) fun _ _ _ _ _ _ us hl => match us, hl with | [_], _ => rfl
  f_law := f22
  fd_law := _
  F_law := fun_mk l22 c22 k22
  g_law := PySem.W.mg_of X G a22
  b_law := (fun_mk (st := s_law) l22 c22 k22).binds (ps := ["_law_script"]) fun _ _ _ _ _ _ us hl => match us, hl with | [_], _ => rfl
  t_NOBODY := t0
  g_NOBODY := PySem.W.mg_of X G v0
  n_int := PySem.W.mg_none_of X G z0
  n_len := PySem.W.mg_none_of X G z1
  n_list := PySem.W.mg_none_of X G z2
  n_min := PySem.W.mg_none_of X G z3
  n_range := PySem.W.mg_none_of X G z4
  n_repr := PySem.W.mg_none_of X G z5
  n_str := PySem.W.mg_none_of X G z6
  n_sum := PySem.W.mg_none_of X G z7
  n_tuple := PySem.W.mg_none_of X G z8
  w_law := fun s v => .of_eq rfl
theorem use {K : PySem.W.Frag} {mg : Str → Option Value} {C : Prop} (T : Txt K mg) (h : Txt K mg → C) : C := h T
end K8
open PySem PySem.W PyProof.Rows
set_option maxHeartbeats 0 in
theorem PySem.Challenge.cw_fairshown_k08_texts_written_holds : PySem.Challenge.rw_fairshown_k08_texts_written.Holds := by
  w_on; o_law; k_head; (case hw => w_witness2)
  k_fill
  refine FS.walk_ofG (l := PySem.Challenge.rw_fairshown_k08_texts_written) (n := 63) (k := 8) (x := "_law_script") (F := K8.F_law) rfl (by decide) rfl ⟨rfl, by decide, by decide⟩ (fun w h Y => PySem.W.kIn_of Y) ?F K8.law_true
  case F =>
    intro w mg fa h KX G hmg
    refine' K8.use (K8.all_mk KX G ?a0 ?l0 ?c0 ?k0 ?a1 ?l1 ?c1 ?k1 ?a2 ?l2 ?c2 ?k2 ?a3 ?l3 ?c3 ?k3 ?a4 ?l4 ?c4 ?k4 ?a5 ?l5 ?c5 ?k5 ?a6 ?l6 ?c6 ?k6 ?a7 ?l7 ?c7 ?k7 ?a8 ?l8 ?c8 ?k8 ?a9 ?l9 ?c9 ?k9 ?a10 ?l10 ?c10 ?k10 ?a11 ?l11 ?c11 ?k11 ?a12 ?l12 ?c12 ?k12 ?a13 ?l13 ?c13 ?k13 ?a14 ?l14 ?c14 ?k14 ?a15 ?l15 ?c15 ?k15 ?a16 ?l16 ?c16 ?k16 ?a17 ?l17 ?c17 ?k17 ?a18 ?l18 ?c18 ?k18 ?a19 ?l19 ?c19 ?k19 ?a20 ?l20 ?c20 ?k20 ?a21 ?l21 ?c21 ?k21 ?a22 ?l22 ?c22 ?k22 ?v0 ?z0 ?z1 ?z2 ?z3 ?z4 ?z5 ?z6 ?z7 ?z8) ?body
    (case a0 => k_is)
    (case l0 => k_is)
    (case c0 => k_is)
    (case k0 => k_is)
    (case a1 => k_is)
    (case l1 => k_is)
    (case c1 => k_is)
    (case k1 => k_is)
    (case a2 => k_is)
    (case l2 => k_is)
    (case c2 => k_is)
    (case k2 => k_is)
    (case a3 => k_is)
    (case l3 => k_is)
    (case c3 => k_is)
    (case k3 => k_is)
    (case a4 => k_is)
    (case l4 => k_is)
    (case c4 => k_is)
    (case k4 => k_is)
    (case a5 => k_is)
    (case l5 => k_is)
    (case c5 => k_is)
    (case k5 => k_is)
    (case a6 => k_is)
    (case l6 => k_is)
    (case c6 => k_is)
    (case k6 => k_is)
    (case a7 => k_is)
    (case l7 => k_is)
    (case c7 => k_is)
    (case k7 => k_is)
    (case a8 => k_is)
    (case l8 => k_is)
    (case c8 => k_is)
    (case k8 => k_is)
    (case a9 => k_is)
    (case l9 => k_is)
    (case c9 => k_is)
    (case k9 => k_is)
    (case a10 => k_is)
    (case l10 => k_is)
    (case c10 => k_is)
    (case k10 => k_is)
    (case a11 => k_is)
    (case l11 => k_is)
    (case c11 => k_is)
    (case k11 => k_is)
    (case a12 => k_is)
    (case l12 => k_is)
    (case c12 => k_is)
    (case k12 => k_is)
    (case a13 => k_is)
    (case l13 => k_is)
    (case c13 => k_is)
    (case k13 => k_is)
    (case a14 => k_is)
    (case l14 => k_is)
    (case c14 => k_is)
    (case k14 => k_is)
    (case a15 => k_is)
    (case l15 => k_is)
    (case c15 => k_is)
    (case k15 => k_is)
    (case a16 => k_is)
    (case l16 => k_is)
    (case c16 => k_is)
    (case k16 => k_is)
    (case a17 => k_is)
    (case l17 => k_is)
    (case c17 => k_is)
    (case k17 => k_is)
    (case a18 => k_is)
    (case l18 => k_is)
    (case c18 => k_is)
    (case k18 => k_is)
    (case a19 => k_is)
    (case l19 => k_is)
    (case c19 => k_is)
    (case k19 => k_is)
    (case a20 => k_is)
    (case l20 => k_is)
    (case c20 => k_is)
    (case k20 => k_is)
    (case a21 => k_is)
    (case l21 => k_is)
    (case c21 => k_is)
    (case k21 => k_is)
    (case a22 => k_is)
    (case l22 => k_is)
    (case c22 => k_is)
    (case k22 => k_is)
    (case v0 => k_is)
    (case z0 => k_is)
    (case z1 => k_is)
    (case z2 => k_is)
    (case z3 => k_is)
    (case z4 => k_is)
    (case z5 => k_is)
    (case z6 => k_is)
    (case z7 => k_is)
    (case z8 => k_is)
    intro T
    have e := hmg.symm.trans T.g_law
    cases e
    exact ⟨T.fd_law, T.w_law, fun base _ _ => K8.ok_law T⟩
