import PyProof.Rows.All
import Wide.All
import OpenK.AllK
import Wide.FinOn
import HandS.ForMost
import HandS.Exc
import HandS.TryOnly
import HandS.ExcOwn
import HandS.ExcValue
import HandS.Lambda
import HandS.EndTab
import HandS.DictTup
import HandS.Defaults
import HandS.Conv
import HandS.Style
import HandS.Zip
import HandS.RevRange
import HandS.WordsExc
import HandS.Small
import HandS.TupMul
import HandS.TupAny
import HandS.IsInst
import HandS.Wide
import KE.DataEq
import KE.KRevSl
import HandS.HeadHook4
import HandS.Words
import KE.GoesEnum
import PyProof.EnumMake
import KE.KExcSuper
import KE.KSuper
import HandS.ExcSuper
import KE.KExcIs
import HandS.HeadWalk
import HandS.Head2
import KE.KStateDown
import PySem.Challenge.RW_rowunderrow_k71_whole_series_of_numbers
set_option Elab.async false
set_option linter.all false
set_option maxRecDepth 100000
/-! Dn, 1: values as plain data, the store, how they lie in the abstract heap. -/
namespace Dn
open PySem PySem.Spec PyProof.Rows L2

/-- a value, whole -/
inductive D where
  | non | bl (b : Bool) | int (i : Int) | str (x : Str)
  /-- a tuple; a list and a dict that nobody changes any more -/
  | tup (xs : List D) | lst (xs : List D) | dK (ks : List Key) (xs : List D) | dT (ks : List (List Key)) (xs : List D)
  /-- the law's script -/
  | scr (xs : List Int)
  /-- a list or dict that may change: its number in the store -/
  | ref (i : Nat)
  /-- an error of the program: its class's name, what it holds -/
  | exc (c : Str) (x : D)
  deriving Inhabited

/-- what may change -/
inductive M where
  | l (xs : List D) | dK (ks : List Key) (xs : List D) | dT (ks : List (List Key)) (xs : List D)
abbrev Store := List M

/-- an error object at e: its class at C, its own dict at dx -/
def ExcO (e C dx : Addr) : HO := .ext fun h => ∃ (oe : Obj) (vs : Array Value), h.get? e = some oe ∧ Zc (.ref C) (some dx) oe ∧ oe.data = .fields vs

section
variable (mg : Str → Option Value) (ι av : List Addr) (H : Hp)
mutual
/-- v is d: ι, the store's addresses; av, addresses that are kept apart -/
inductive Rep : V → D → Prop where
  | non : Rep .non .non
  | bl (b : Bool) : Rep (.bl b) (.bl b)
  | int (i : Int) : Rep (.int i) (.int i)
  | str (x : Str) : Rep (.str x) (.str x)
  | tup {a : Addr} {vs : List V} {ds : List D} : H a = some (.tup vs) → a ∉ ι → a ∉ av → Reps vs ds → Rep (.ref a) (.tup ds)
  | lst {a : Addr} {vs : List V} {ds : List D} : H a = some (.lst vs) → a ∉ ι → a ∉ av → Reps vs ds → Rep (.ref a) (.lst ds)
  | dK {a : Addr} {ks : List Key} {vs : List V} {ds : List D} : Rd H a (.dK (ks.zip vs)) → ks.length = vs.length → a ∉ ι → a ∉ av → Reps vs ds → Rep (.ref a) (.dK ks ds)
  | dT {a : Addr} {ks : List (List Key)} {vs : List V} {ds : List D} : Rd H a (.dT (ks.zip vs)) → ks.length = vs.length → a ∉ ι → a ∉ av → Reps vs ds → Rep (.ref a) (.dT ks ds)
  | scr {a : Addr} {o : Obj} {xs : List Int} : H a = some (.frz o (.lst (xs.map V.int))) → a ∉ ι → a ∉ av → Rep (.ref a) (.scr xs)
  | ref {a : Addr} {i : Nat} : ι[i]? = some a → Rep (.ref a) (.ref i)
  | exc {e C dx : Addr} {v : V} {c : Str} {d : D} : mg c = some (.ref C) → H e = some (ExcO e C dx) → H dx = some (.xd [(("value" : Str), v)]) → e ∉ ι → e ∉ av → dx ∉ ι → dx ∉ av → Rep v d → Rep (.ref e) (.exc c d)
inductive Reps : List V → List D → Prop where
  | nil : Reps [] []
  | cons {v : V} {vs : List V} {d : D} {ds : List D} : Rep v d → Reps vs ds → Reps (v :: vs) (d :: ds)
end
end

/-- what the heap keeps and what it has more -/
structure Ext (ι : List Addr) (H : Hp) (ι' : List Addr) (H' : Hp) : Prop where
  pre : ∃ t, ι' = ι ++ t
  keep : ∀ a o, H a = some o → a ∉ ι → (∀ ps, o ≠ .tbl ps) → H' a = some o ∧ a ∉ ι'
theorem Ext.refl (ι : List Addr) (H : Hp) : Ext ι H ι H := ⟨⟨[], by simp⟩, fun _ _ h n _ => ⟨h, n⟩⟩
theorem Ext.trans {ι₀ ι₁ ι₂ : List Addr} {H₀ H₁ H₂ : Hp} (a : Ext ι₀ H₀ ι₁ H₁) (b : Ext ι₁ H₁ ι₂ H₂) : Ext ι₀ H₀ ι₂ H₂ := by
  obtain ⟨t, e⟩ := a.pre
  obtain ⟨u, e'⟩ := b.pre
  refine ⟨⟨t ++ u, by rw [e', e, List.append_assoc]⟩, fun c o h n k => ?_⟩
  obtain ⟨h1, n1⟩ := a.keep c o h n k
  exact b.keep c o h1 n1 k
theorem Ext.rd {ι ι' : List Addr} {H H' : Hp} (x : Ext ι H ι' H') {a : Addr} {o : HO} (h : Rd H a o) (n : a ∉ ι) (k : ∀ ps, o ≠ .tbl ps) : Rd H' a o ∧ a ∉ ι' := by
  rcases h with h | ⟨u, h⟩
  · obtain ⟨h1, h2⟩ := x.keep a o h n k
    exact ⟨.inl h1, h2⟩
  · obtain ⟨h1, h2⟩ := x.keep a _ h n nofun
    exact ⟨.inr ⟨u, h1⟩, h2⟩
theorem Ext.get {ι ι' : List Addr} {H H' : Hp} (x : Ext ι H ι' H') {i : Nat} {a : Addr} (h : ι[i]? = some a) : ι'[i]? = some a := by
  obtain ⟨t, e⟩ := x.pre
  have hi : i < ι.length := (List.getElem?_eq_some_iff.mp h).1
  rw [e, List.getElem?_append_left hi]
  exact h

section
variable {mg : Str → Option Value} {ι ι' av : List Addr} {H H' : Hp}
mutual
theorem Rep.ext (x : Ext ι H ι' H') : ∀ {v : V} {d : D}, Rep mg ι av H v d → Rep mg ι' av H' v d
  | _, _, .non => .non
  | _, _, .bl b => .bl b
  | _, _, .int i => .int i
  | _, _, .str z => .str z
  | _, _, .tup h n m r => let q := x.keep _ _ h n nofun; .tup q.1 q.2 m (Reps.ext x r)
  | _, _, .lst h n m r => let q := x.keep _ _ h n nofun; .lst q.1 q.2 m (Reps.ext x r)
  | _, _, .dK h l n m r => let q := x.rd h n nofun; .dK q.1 l q.2 m (Reps.ext x r)
  | _, _, .dT h l n m r => let q := x.rd h n nofun; .dT q.1 l q.2 m (Reps.ext x r)
  | _, _, .scr h n m => let q := x.keep _ _ h n nofun; .scr q.1 q.2 m
  | _, _, .ref h => .ref (x.get h)
  | _, _, .exc c h1 h2 n1 m1 n2 m2 r => let q := x.keep _ _ h1 n1 nofun; let p := x.keep _ _ h2 n2 nofun; .exc c q.1 p.1 q.2 m1 p.2 m2 (Rep.ext x r)
theorem Reps.ext (x : Ext ι H ι' H') : ∀ {vs : List V} {ds : List D}, Reps mg ι av H vs ds → Reps mg ι' av H' vs ds
  | _, _, .nil => .nil
  | _, _, .cons r t => .cons (Rep.ext x r) (Reps.ext x t)
end
theorem Reps.length : ∀ {vs : List V} {ds : List D}, Reps mg ι av H vs ds → vs.length = ds.length
  | _, _, .nil => rfl
  | _, _, .cons _ t => by rw [List.length_cons, List.length_cons, Reps.length t]
theorem Reps.append : ∀ {vs ws : List V} {ds es : List D}, Reps mg ι av H vs ds → Reps mg ι av H ws es → Reps mg ι av H (vs ++ ws) (ds ++ es)
  | _, _, _, _, .nil, s => s
  | _, _, _, _, .cons r t, s => .cons r (Reps.append t s)
theorem Reps.get : ∀ {vs : List V} {ds : List D} {i : Nat} {d : D}, Reps mg ι av H vs ds → ds[i]? = some d → ∃ v, vs[i]? = some v ∧ Rep mg ι av H v d
  | _, _, i, d, .nil, e => by simp at e
  | _, _, 0, d, .cons r _, e => by
    simp at e
    subst e
    exact ⟨_, rfl, r⟩
  | _, _, i + 1, d, .cons _ t, e => by
    obtain ⟨v, h1, h2⟩ := Reps.get (i := i) (d := d) t (by simpa using e)
    exact ⟨v, by simpa using h1, h2⟩
theorem Reps.getV : ∀ {vs : List V} {ds : List D} {i : Nat} {v : V}, Reps mg ι av H vs ds → vs[i]? = some v → ∃ d, ds[i]? = some d ∧ Rep mg ι av H v d
  | _, _, i, d, .nil, e => by simp at e
  | _, _, 0, d, .cons r _, e => by
    simp at e
    subst e
    exact ⟨_, rfl, r⟩
  | _, _, i + 1, d, .cons _ t, e => by
    obtain ⟨v, h1, h2⟩ := Reps.getV (i := i) (v := d) t (by simpa using e)
    exact ⟨v, by simpa using h1, h2⟩
theorem Reps.take : ∀ {vs : List V} {ds : List D} (n : Nat), Reps mg ι av H vs ds → Reps mg ι av H (vs.take n) (ds.take n)
  | _, _, 0, _ => .nil
  | _, _, _ + 1, .nil => .nil
  | _, _, n + 1, .cons r t => .cons r (Reps.take n t)
theorem Reps.drop : ∀ {vs : List V} {ds : List D} (n : Nat), Reps mg ι av H vs ds → Reps mg ι av H (vs.drop n) (ds.drop n)
  | _, _, 0, r => r
  | _, _, _ + 1, .nil => .nil
  | _, _, n + 1, .cons _ t => Reps.drop n t
theorem Reps.reverse : ∀ {vs : List V} {ds : List D}, Reps mg ι av H vs ds → Reps mg ι av H vs.reverse ds.reverse
  | _, _, .nil => .nil
  | _, _, .cons r t => by
    rw [List.reverse_cons, List.reverse_cons]
    exact Reps.append (Reps.reverse t) (.cons r .nil)
theorem Reps.set {v : V} {d : D} (r : Rep mg ι av H v d) : ∀ {vs : List V} {ds : List D} (i : Nat), Reps mg ι av H vs ds → Reps mg ι av H (vs.set i v) (ds.set i d)
  | _, _, _, .nil => .nil
  | _, _, 0, .cons _ t => .cons r t
  | _, _, i + 1, .cons q t => .cons q (Reps.set r i t)
theorem Reps.flat {vs : List V} {ds : List D} (r : Reps mg ι av H vs ds) : ∀ n : Nat, Reps mg ι av H (List.replicate n vs).flatten (List.replicate n ds).flatten
  | 0 => .nil
  | n + 1 => by
    rw [List.replicate_succ, List.replicate_succ, List.flatten_cons, List.flatten_cons]
    exact r.append (Reps.flat r n)
theorem Reps.ints : ∀ (ns : List Int), Reps mg ι av H (ns.map V.int) (ns.map D.int)
  | [] => .nil
  | n :: ns => .cons (.int n) (Reps.ints ns)
/-- the store -/
inductive MRep (mg : Str → Option Value) (ι av : List Addr) (H : Hp) : Addr → M → Prop where
  | l {a : Addr} {vs : List V} {ds : List D} : H a = some (.lst vs) → Reps mg ι av H vs ds → MRep mg ι av H a (.l ds)
  | dK {a : Addr} {ks : List Key} {vs : List V} {ds : List D} : H a = some (.dK (ks.zip vs)) → ks.length = vs.length → Reps mg ι av H vs ds → MRep mg ι av H a (.dK ks ds)
  | dT {a : Addr} {ks : List (List Key)} {vs : List V} {ds : List D} : H a = some (.dT (ks.zip vs)) → ks.length = vs.length → Reps mg ι av H vs ds → MRep mg ι av H a (.dT ks ds)
end
/-- the store lies at ι; T: the tables of code objects -/
structure StRep (mg : Str → Option Value) (T : List (Addr × Str)) (ι av : List Addr) (H : Hp) (η : Store) : Prop where
  nd : ι.Nodup
  len : ι.length = η.length
  at_ : ∀ (i : Nat) (a : Addr) (m : M), ι[i]? = some a → η[i]? = some m → MRep mg ι av H a m
  av_ : ∀ a ∈ av, (∃ xs, H a = some (.lst xs)) ∧ a ∉ ι
  tab : LamX.Tabs T H

section
variable {mg : Str → Option Value} {T : List (Addr × Str)} {ι ι' av : List Addr} {H H' : Hp} {η : Store}
theorem MRep.keep {a : Addr} {m : M} (x : Ext ι H ι' H') (e : H' a = H a) (r : MRep mg ι av H a m) : MRep mg ι' av H' a m := by
  cases r with
  | l h q => exact .l (e.trans h) (q.ext x)
  | dK h l q => exact .dK (e.trans h) l (q.ext x)
  | dT h l q => exact .dT (e.trans h) l (q.ext x)
theorem MRep.there {a : Addr} {m : M} (r : MRep mg ι av H a m) : ∃ o, H a = some o ∧ ((∃ xs, o = .lst xs) ∨ (∃ xs, o = .dK xs) ∨ ∃ xs, o = .dT xs) := by
  cases r with
  | l h q => exact ⟨_, h, .inl ⟨_, rfl⟩⟩
  | dK h l q => exact ⟨_, h, .inr (.inl ⟨_, rfl⟩)⟩
  | dT h l q => exact ⟨_, h, .inr (.inr ⟨_, rfl⟩)⟩
theorem StRep.get (s : StRep mg T ι av H η) {i : Nat} {m : M} (h : η[i]? = some m) : ∃ a, ι[i]? = some a ∧ MRep mg ι av H a m := by
  have hi : i < ι.length := by
    rw [s.len]
    exact (List.getElem?_eq_some_iff.mp h).1
  exact ⟨ι[i], List.getElem?_eq_getElem hi, s.at_ i _ m (List.getElem?_eq_getElem hi) h⟩
theorem StRep.has (s : StRep mg T ι av H η) {i : Nat} {a : Addr} (h : ι[i]? = some a) : ∃ m, η[i]? = some m ∧ MRep mg ι av H a m := by
  have hi : i < η.length := by
    rw [← s.len]
    exact (List.getElem?_eq_some_iff.mp h).1
  exact ⟨η[i], List.getElem?_eq_getElem hi, s.at_ i _ _ h (List.getElem?_eq_getElem hi)⟩
theorem StRep.mem (s : StRep mg T ι av H η) {a : Addr} (h : a ∈ ι) : ∃ m, MRep mg ι av H a m := by
  obtain ⟨i, hi, e⟩ := List.getElem_of_mem h
  obtain ⟨m, _, r⟩ := s.has (i := i) (a := a) (by rw [List.getElem?_eq_getElem hi, e])
  exact ⟨m, r⟩
theorem StRep.fresh (s : StRep mg T ι av H η) {p : Addr} (hp : H p = none) : p ∉ ι ∧ p ∉ av := by
  refine ⟨fun h => ?_, fun h => ?_⟩
  · obtain ⟨m, r⟩ := s.mem h
    obtain ⟨o, e, _⟩ := r.there
    rw [hp] at e
    cases e
  · obtain ⟨⟨o, e⟩, _⟩ := s.av_ p h
    rw [hp] at e
    cases e
/-- a new object that stays -/
theorem Ext.new {p : Addr} {o : HO} (hp : H p = none) : Ext ι H ι (upd H p o) := ⟨⟨[], by simp⟩, fun a u e n _ => ⟨by rw [upd_ne (ne_of_none e hp)]; exact e, n⟩⟩
theorem StRep.new {p : Addr} {o : HO} (s : StRep mg T ι av H η) (hp : H p = none) : StRep mg T ι av (upd H p o) η := by
  refine ⟨s.nd, s.len, fun i a m h1 h2 => ?_, fun a ha => ?_, s.tab.ext fun b u e => by rw [upd_ne (ne_of_none e hp)]; exact e⟩
  · have r := s.at_ i a m h1 h2
    obtain ⟨u, e, _⟩ := r.there
    exact r.keep (Ext.new hp) (upd_ne (ne_of_none e hp))
  · obtain ⟨⟨u, e⟩, n⟩ := s.av_ a ha
    exact ⟨⟨u, by rw [upd_ne (ne_of_none e hp)]; exact e⟩, n⟩
/-- a new object of the store -/
theorem Ext.newM {p : Addr} {o : HO} (hp : H p = none) : Ext ι H (ι ++ [p]) (upd H p o) :=
  ⟨⟨[p], rfl⟩, fun a u e n _ => ⟨by rw [upd_ne (ne_of_none e hp)]; exact e, fun z => (List.mem_append.mp z).elim n fun z => ne_of_none e hp (List.mem_singleton.mp z)⟩⟩
theorem StRep.newM {p : Addr} {o : HO} {m : M} (s : StRep mg T ι av H η) (hp : H p = none) (r : MRep mg (ι ++ [p]) av (upd H p o) p m) : StRep mg T (ι ++ [p]) av (upd H p o) (η ++ [m]) := by
  obtain ⟨nι, nav⟩ := s.fresh hp
  refine ⟨?_, by rw [List.length_append, List.length_append, s.len]; rfl, fun i a m' h1 h2 => ?_, fun a ha => ?_, s.tab.ext fun b u e => by rw [upd_ne (ne_of_none e hp)]; exact e⟩
  · rw [List.nodup_append]
    refine ⟨s.nd, by simp, fun a ha b hb e => ?_⟩
    rw [List.mem_singleton.mp hb] at e
    exact nι (e ▸ ha)
  · by_cases hi : i < ι.length
    · rw [List.getElem?_append_left hi] at h1
      rw [List.getElem?_append_left (by rw [← s.len]; exact hi)] at h2
      have q := s.at_ i a m' h1 h2
      obtain ⟨u, e, _⟩ := q.there
      exact q.keep (Ext.newM hp) (upd_ne (ne_of_none e hp))
    · have hi' : i = ι.length := by
        have := (List.getElem?_eq_some_iff.mp h1).1
        rw [List.length_append] at this
        have e1 : [p].length = 1 := rfl
        omega
      subst hi'
      rw [List.getElem?_append_right (Nat.le_refl _), Nat.sub_self] at h1
      rw [s.len, List.getElem?_append_right (Nat.le_refl _), Nat.sub_self] at h2
      cases h1
      cases h2
      exact r
  · obtain ⟨⟨u, e⟩, n⟩ := s.av_ a ha
    exact ⟨⟨u, by rw [upd_ne (ne_of_none e hp)]; exact e⟩, fun z => (List.mem_append.mp z).elim n fun z => ne_of_none e hp (List.mem_singleton.mp z)⟩
/-- an object of the store changes -/
theorem Ext.put {a : Addr} {o : HO} (ha : a ∈ ι) : Ext ι H ι (upd H a o) := ⟨⟨[], by simp⟩, fun b u e n _ => ⟨by rw [upd_ne (fun z => n (by rw [z]; exact ha))]; exact e, n⟩⟩
theorem StRep.put {i : Nat} {a : Addr} {o : HO} {m : M} (s : StRep mg T ι av H η) (ha : ι[i]? = some a) (r : MRep mg ι av (upd H a o) a m) : StRep mg T ι av (upd H a o) (η.set i m) := by
  have hm : a ∈ ι := List.mem_of_getElem? ha
  obtain ⟨m0, e0, r0⟩ := s.has ha
  obtain ⟨u0, eu, ku⟩ := r0.there
  have nt : ∀ b u, H b = some u → ((∃ ps, u = .tbl ps) ∨ ∃ φ, u = .ext φ) → b ≠ a := fun b u e k z => by
    rw [z, eu] at e
    cases e
    rcases k with ⟨ps, rfl⟩ | ⟨φ, rfl⟩ <;> rcases ku with ⟨_, z⟩ | ⟨_, z⟩ | ⟨_, z⟩ <;> cases z
  refine ⟨s.nd, by rw [List.length_set]; exact s.len, fun j b m' h1 h2 => ?_, fun b hb => ?_, fun q hq => ?_⟩
  · by_cases hj : j = i
    · subst hj
      rw [ha] at h1
      cases h1
      rw [List.getElem?_set_self (by rw [← s.len]; exact (List.getElem?_eq_some_iff.mp ha).1)] at h2
      cases h2
      exact r
    · rw [List.getElem?_set_ne (Ne.symm hj)] at h2
      refine (s.at_ j b m' h1 h2).keep (Ext.put hm) (upd_ne fun z => hj ?_)
      rw [z] at h1
      exact (List.getElem?_inj (List.getElem?_eq_some_iff.mp h1).1 s.nd).mp (h1.trans ha.symm)
  · obtain ⟨⟨u, e⟩, n⟩ := s.av_ b hb
    have nb : b ≠ a := fun z => n (by rw [z]; exact hm)
    exact ⟨⟨u, by rw [upd_ne nb]; exact e⟩, n⟩
  · obtain ⟨ps, e1, e2, e3⟩ := s.tab q hq
    refine ⟨ps, by rw [upd_ne (nt _ _ e1 (.inl ⟨_, rfl⟩))]; exact e1, e2, fun pos cv hc => ?_⟩
    obtain ⟨c, e4, e5⟩ := e3 pos cv hc
    exact ⟨c, e4, by rw [upd_ne (nt _ _ e5 (.inr ⟨_, rfl⟩))]; exact e5⟩
end

/-! ### what a reading gives -/
/-- an expression's end: a value, an error, or nothing is said -/
inductive R (α : Type) where
  | ok (a : α) (η : Store) | rse (c : Str) (d : D) (η : Store) | stk
def R.bind {α β : Type} (r : R α) (k : α → Store → R β) : R β := match r with
  | .ok a η => k a η
  | .rse c d η => .rse c d η
  | .stk => .stk
@[simp] theorem R.bind_ok {α β : Type} (a : α) (η : Store) (k : α → Store → R β) : (R.ok a η).bind k = k a η := rfl
@[simp] theorem R.bind_rse {α β : Type} (c : Str) (d : D) (η : Store) (k : α → Store → R β) : (R.rse c d η : R α).bind k = .rse c d η := rfl
@[simp] theorem R.bind_stk {α β : Type} (k : α → Store → R β) : (R.stk : R α).bind k = .stk := rfl
/-- of what may not be there -/
def R.of {α : Type} (η : Store) : Option α → R α
  | some a => .ok a η
  | none => .stk
@[simp] theorem R.of_some {α : Type} (η : Store) (a : α) : R.of η (some a) = .ok a η := rfl
@[simp] theorem R.of_none {α : Type} (η : Store) : R.of η (none : Option α) = .stk := rfl
abbrev Ev := List (Option D)
abbrev FE := Ev → Store → R D
abbrev FA := Ev → Store → R (List D)
abbrev FT := Ev → Store → R Bool
/-- a statement's end -/
inductive RS where
  | nx (ρ : Ev) (η : Store) | rt (d : D) (η : Store) | bk (ρ : Ev) (η : Store) | ct (ρ : Ev) (η : Store) | rse (c : Str) (d : D) (η : Store) | stk
abbrev FS := Ev → Store → RS
def R.thn {α : Type} (r : R α) (k : α → Store → RS) : RS := match r with
  | .ok a η => k a η
  | .rse c d η => .rse c d η
  | .stk => .stk
@[simp] theorem R.thn_ok {α : Type} (a : α) (η : Store) (k : α → Store → RS) : (R.ok a η).thn k = k a η := rfl
@[simp] theorem R.thn_rse {α : Type} (c : Str) (d : D) (η : Store) (k : α → Store → RS) : (R.rse c d η : R α).thn k = .rse c d η := rfl
@[simp] theorem R.thn_stk {α : Type} (k : α → Store → RS) : (R.stk : R α).thn k = .stk := rfl

/-- the def's names -/
structure Sim (mg : Str → Option Value) (ι av : List Addr) (ρ : Ev) (σ : L2.St) (H : Hp) : Prop where
  len : σ.length = ρ.length
  at_ : ∀ (i : Nat) (d : D), ρ[i]? = some (some d) → ∃ v, σ[i]? = some (some v) ∧ Rep mg ι av H v d
theorem Sim.ext {mg : Str → Option Value} {ι ι' av : List Addr} {H H' : Hp} {ρ : Ev} {σ : L2.St} (s : Sim mg ι av ρ σ H) (x : Ext ι H ι' H') : Sim mg ι' av ρ σ H' :=
  ⟨s.len, fun i d h => let ⟨v, e, r⟩ := s.at_ i d h; ⟨v, e, r.ext x⟩⟩
theorem Sim.set {mg : Str → Option Value} {ι av : List Addr} {H : Hp} {ρ : Ev} {σ : L2.St} {v : V} {d : D} (s : Sim mg ι av ρ σ H) (r : Rep mg ι av H v d) (i : Nat) : Sim mg ι av (ρ.set i (some d)) (σ.set i (some v)) H := by
  refine ⟨by rw [List.length_set, List.length_set]; exact s.len, fun j e h => ?_⟩
  by_cases hj : i = j
  · subst hj
    by_cases hi : i < ρ.length
    · rw [List.getElem?_set_self hi] at h
      cases h
      exact ⟨v, List.getElem?_set_self (by rw [s.len]; exact hi), r⟩
    · rw [List.getElem?_eq_none (by rw [List.length_set]; omega)] at h
      cases h
  · rw [List.getElem?_set_ne hj] at h ⊢
    exact s.at_ j e h
end Dn
set_option Elab.async false
set_option linter.all false
set_option maxRecDepth 100000
/-! Dn, 2: readings by functions. -/
namespace Dn
open PySem PySem.Spec PyProof.Rows L2

theorem PE.imp {X : Cx} {e : Expr} {t t' : TE} (h : PE X e t) (k : ∀ σ H Q, t' σ H Q → t σ H Q) : PE X e t' := ⟨fun pins s σ H Q I w => h.run pins s σ H Q I (k σ H Q w)⟩
theorem PT.imp {X : Cx} {e : Expr} {t t' : TT} (h : PT X e t) (k : ∀ σ H Q, t' σ H Q → t σ H Q) : PT X e t' := ⟨fun pins s σ H Q I w => h.run pins s σ H Q I (k σ H Q w)⟩
theorem PW.imp {X : Cx} {e : Expr} {t t' : TT} (h : PW X e t) (k : ∀ σ H Q, t' σ H Q → t σ H Q) : PW X e t' := ⟨fun wh pins s σ H Q I w => h.run wh pins s σ H Q I (k σ H Q w)⟩
theorem PA.imp {X : Cx} {es : List Expr} {t t' : TA} (h : PA X es t) (k : ∀ σ H Q, t' σ H Q → t σ H Q) : PA X es t' := ⟨fun pos pins s σ H Q I w => h.run pos pins s σ H Q I (k σ H Q w)⟩
theorem PK.imp {X : Cx} {es : List Keyword} {t t' : TA} (h : PK X es t) (k : ∀ σ H Q, t' σ H Q → t σ H Q) : PK X es t' := ⟨fun pos pins s σ H Q I w => h.run pos pins s σ H Q I (k σ H Q w)⟩
theorem PS.imp {X : Cx} {st : Stmt} {t t' : TS} (h : PS X st t) (k : ∀ D σ H, t' D σ H → t D σ H) : PS X st t' := ⟨fun pins s σ H D I w => h.run pins s σ H D I (k D σ H w)⟩
theorem PSs.imp {X : Cx} {st : List Stmt} {t t' : TS} (h : PSs X st t) (k : ∀ D σ H, t' D σ H → t D σ H) : PSs X st t' := ⟨fun pins s σ H D I w => h.run pins s σ H D I (k D σ H w)⟩

/-- how what is had stands for what is told: by the store's addresses, those kept apart, the heap -/
abbrev Rl (β α : Type) := List Addr → List Addr → Hp → β → α → Prop
def rlE (mg : Str → Option Value) : Rl V D := fun ι av H v d => Rep mg ι av H v d
def rlA (mg : Str → Option Value) : Rl (List V) (List D) := fun ι av H v d => Reps mg ι av H v d
def rlT : Rl Bool Bool := fun _ _ _ b b' => b = b'

section
variable (mg : Str → Option Value) (T : List (Addr × Str))
/-- an error of the program on its way -/
def PostX (ι av : List Addr) (H : Hp) (E : XK) (c : Str) (d : D) (η' : Store) : Prop :=
  ∀ (C dx : Addr) (v : V) (H' : Hp) (ι' : List Addr), mg c = some (.ref C) → H' dx = some (.xd [(("value" : Str), v)]) → dx ∉ ι' → dx ∉ av → Rep mg ι' av H' v d → StRep mg T ι' av H' η' → Ext ι H ι' H' → E (.ref C) (some dx) H'
def PostG {β α : Type} (rl : Rl β α) (ι av : List Addr) (H : Hp) (E : XK) (Q : β → Hp → Prop) : R α → Prop
  | .ok a η' => ∀ (b : β) (H' : Hp) (ι' : List Addr), rl ι' av H' b a → StRep mg T ι' av H' η' → Ext ι H ι' H' → Q b H'
  | .rse c d η' => PostX mg T ι av H E c d η'
  | .stk => False
/-- the reading by a function -/
def tG {β α : Type} (rl : Rl β α) (E : XK) (f : Ev → Store → R α) : L2.St → Hp → (β → Hp → Prop) → Prop := fun σ H Q =>
  ∃ (ρ : Ev) (η : Store) (ι av : List Addr), Sim mg ι av ρ σ H ∧ StRep mg T ι av H η ∧ PostG mg T rl ι av H E Q (f ρ η)
abbrev tE (E : XK) (f : FE) : TE := tG mg T (rlE mg) E f
abbrev tA (E : XK) (f : FA) : TA := tG mg T (rlA mg) E f
abbrev tT (E : XK) (f : FT) : TT := tG mg T rlT E f
def PostS (ι av : List Addr) (H : Hp) (E : XK) (Dn : Ends) : RS → Prop
  | .nx ρ' η' => ∀ (σ' : L2.St) (H' : Hp) (ι' : List Addr), Sim mg ι' av ρ' σ' H' → StRep mg T ι' av H' η' → Ext ι H ι' H' → Dn.nx σ' H'
  | .bk ρ' η' => ∀ (σ' : L2.St) (H' : Hp) (ι' : List Addr), Sim mg ι' av ρ' σ' H' → StRep mg T ι' av H' η' → Ext ι H ι' H' → Dn.bk σ' H'
  | .ct ρ' η' => ∀ (σ' : L2.St) (H' : Hp) (ι' : List Addr), Sim mg ι' av ρ' σ' H' → StRep mg T ι' av H' η' → Ext ι H ι' H' → Dn.ct σ' H'
  | .rt d η' => ∀ (v : V) (H' : Hp) (ι' : List Addr), Rep mg ι' av H' v d → StRep mg T ι' av H' η' → Ext ι H ι' H' → Dn.rt v H'
  | .rse c d η' => PostX mg T ι av H E c d η'
  | .stk => False
def tS (E : XK) (f : FS) : TS := fun Dn σ H => ∃ (ρ : Ev) (η : Store) (ι av : List Addr), Sim mg ι av ρ σ H ∧ StRep mg T ι av H η ∧ PostS mg T ι av H E Dn (f ρ η)
end

section
variable {mg : Str → Option Value} {T : List (Addr × Str)} {ι ι₁ av : List Addr} {H H₁ : Hp} {E : XK} {σ : L2.St}
theorem PostX.mono {c : Str} {d : D} {η' : Store} (x : Ext ι H ι₁ H₁) (h : PostX mg T ι av H E c d η') : PostX mg T ι₁ av H₁ E c d η' :=
  fun C dx v H' ι' h1 h2 n1 n2 r s y => h C dx v H' ι' h1 h2 n1 n2 r s (x.trans y)
theorem PostG.mono {β α : Type} {rl : Rl β α} {Q : β → Hp → Prop} {r : R α} (x : Ext ι H ι₁ H₁) (h : PostG mg T rl ι av H E Q r) : PostG mg T rl ι₁ av H₁ E Q r := by
  cases r with
  | ok a η' => exact fun b H' ι' r s y => h b H' ι' r s (x.trans y)
  | rse c d η' => exact PostX.mono x h
  | stk => exact h
theorem PostS.mono {Dn : Ends} {r : RS} (x : Ext ι H ι₁ H₁) (h : PostS mg T ι av H E Dn r) : PostS mg T ι₁ av H₁ E Dn r := by
  cases r with
  | nx ρ' η' => exact fun σ' H' ι' q s y => h σ' H' ι' q s (x.trans y)
  | bk ρ' η' => exact fun σ' H' ι' q s y => h σ' H' ι' q s (x.trans y)
  | ct ρ' η' => exact fun σ' H' ι' q s y => h σ' H' ι' q s (x.trans y)
  | rt d η' => exact fun v H' ι' q s y => h v H' ι' q s (x.trans y)
  | rse c d η' => exact PostX.mono x h
  | stk => exact h

/-- one reading, then what follows by its value -/
theorem bindG {β α β' α' : Type} {rl : Rl β α} {rl' : Rl β' α'} {ρ : Ev} {η : Store} {f : Ev → Store → R α} {k : α → Store → R α'} {Q : β' → Hp → Prop} {Qm : β → Hp → Prop}
    (s : Sim mg ι av ρ σ H) (t : StRep mg T ι av H η) (h : PostG mg T rl' ι av H E Q ((f ρ η).bind k))
    (hk : ∀ (b : β) (a : α) (η₁ : Store) (ι₁ : List Addr) (H₁ : Hp), f ρ η = .ok a η₁ → rl ι₁ av H₁ b a → StRep mg T ι₁ av H₁ η₁ → Ext ι H ι₁ H₁ → Sim mg ι₁ av ρ σ H₁ → PostG mg T rl' ι₁ av H₁ E Q (k a η₁) → Qm b H₁) :
    tG mg T rl E f σ H Qm := by
  refine ⟨ρ, η, ι, av, s, t, ?_⟩
  cases e : f ρ η with
  | ok a η₁ =>
    rw [e] at h
    exact fun b H₁ ι₁ r u x => hk b a η₁ ι₁ H₁ e r u x (s.ext x) (PostG.mono x h)
  | rse c d η₁ =>
    rw [e] at h
    exact h
  | stk =>
    rw [e] at h
    exact h
theorem bindS {β α : Type} {rl : Rl β α} {ρ : Ev} {η : Store} {f : Ev → Store → R α} {k : α → Store → RS} {Dn : Ends} {Qm : β → Hp → Prop}
    (s : Sim mg ι av ρ σ H) (t : StRep mg T ι av H η) (h : PostS mg T ι av H E Dn ((f ρ η).thn k))
    (hk : ∀ (b : β) (a : α) (η₁ : Store) (ι₁ : List Addr) (H₁ : Hp), f ρ η = .ok a η₁ → rl ι₁ av H₁ b a → StRep mg T ι₁ av H₁ η₁ → Ext ι H ι₁ H₁ → Sim mg ι₁ av ρ σ H₁ → PostS mg T ι₁ av H₁ E Dn (k a η₁) → Qm b H₁) :
    tG mg T rl E f σ H Qm := by
  refine ⟨ρ, η, ι, av, s, t, ?_⟩
  cases e : f ρ η with
  | ok a η₁ =>
    rw [e] at h
    exact fun b H₁ ι₁ r u x => hk b a η₁ ι₁ H₁ e r u x (s.ext x) (PostS.mono x h)
  | rse c d η₁ =>
    rw [e] at h
    exact h
  | stk =>
    rw [e] at h
    exact h
end

/-- a context in which all rules hold -/
structure Good (X : Cx) (k : Nat) (E : XK) : Prop where
  calm : X.calm = true
  nd : X.N.Nodup
  gd : X.A.guards = some []
  room : Room k X.A
  tk : Takes X fun cls d _ H => E cls d H

section
variable {X : Cx} {T : List (Addr × Str)} {E : XK}
/-! ### names and constants -/
def fVar (i : Nat) : FE := fun ρ η => R.of η (ρ[i]?.bind id)
def fC (d : D) : FE := fun _ η => .ok d η
theorem d_var {i : Nat} {x : Str} {pos : Pos} (hN : X.N[i]? = some x) (hv : Vis X.env.scope x) (hd : (x == ("__debug__" : Str)) = false := by decide) (hcd : (x == ("__classdict__" : Str)) = false := by decide) : PE X (.Name x pos) (tE X.mg T E (fVar i)) :=
  PE.imp (pe_var hN hv hd hcd) fun σ H Q ⟨ρ, η, ι, av, s, t, h⟩ => by
    unfold fVar at h
    cases e : ρ[i]? with
    | none => rw [e] at h; exact h.elim
    | some o =>
      cases o with
      | none => rw [e] at h; exact h.elim
      | some d =>
        rw [e] at h
        obtain ⟨v, hv, r⟩ := s.at_ i d e
        exact ⟨v, hv, h v H ι r t (.refl _ _)⟩
theorem d_const {e : Expr} {v : V} {d : D} (h : PE X e (tC v)) (hr : ∀ ι av H, Rep X.mg ι av H v d) : PE X e (tE X.mg T E (fC d)) :=
  PE.imp h fun σ H Q ⟨ρ, η, ι, av, s, t, h⟩ => h v H ι (hr ι av H) t (.refl _ _)
theorem d_int {i : Int} {j pos} : PE X (.Constant (.int i) j pos) (tE X.mg T E (fC (.int i))) := d_const pe_int fun _ _ _ => .int i
theorem d_bl {b j pos} : PE X (.Constant (.bool b) j pos) (tE X.mg T E (fC (.bl b))) := d_const pe_bl fun _ _ _ => .bl b
theorem d_non {j pos} : PE X (.Constant .none j pos) (tE X.mg T E (fC .non)) := d_const pe_non fun _ _ _ => .non
theorem d_str {x j pos} : PE X (.Constant (.str x) j pos) (tE X.mg T E (fC (.str x))) := d_const pe_str fun _ _ _ => .str x
theorem d_globI {x : Str} {i : Int} {t : Tok} {pos : Pos} (hg : Gl X x) (hm : X.mg x = some (.int i t)) (hd : (x == ("__debug__" : Str)) = false := by decide) : PE X (.Name x pos) (tE X.mg T E (fC (.int i))) := d_const (v := .int i) (pe_glob hg hm ⟨t, rfl⟩ hd) fun _ _ _ => .int i
theorem d_globS {x z : Str} {t : Tok} {pos : Pos} (hg : Gl X x) (hm : X.mg x = some (.str z t)) (hd : (x == ("__debug__" : Str)) = false := by decide) : PE X (.Name x pos) (tE X.mg T E (fC (.str z))) := d_const (v := .str z) (pe_glob hg hm ⟨t, rfl⟩ hd) fun _ _ _ => .str z

/-! ### arguments, displays -/
def fNil : FA := fun _ η => .ok [] η
def fCons (f : FE) (g : FA) : FA := fun ρ η => (f ρ η).bind fun d η1 => (g ρ η1).bind fun ds η2 => .ok (d :: ds) η2
theorem d_nil : PA X [] (tA X.mg T E fNil) := PA.imp pa_nil fun σ H Q ⟨ρ, η, ι, av, s, t, h⟩ => h [] H ι .nil t (.refl _ _)
theorem d_cons {e : Expr} {es : List Expr} {f : FE} {g : FA} (ha : PE X e (tE X.mg T E f)) (hr : PA X es (tA X.mg T E g)) (hs : starEach (e :: es) X.env = (false, eval e X.env) :: starEach es X.env := by rfl) : PA X (e :: es) (tA X.mg T E (fCons f g)) :=
  PA.imp (pa_cons ha hr hs) fun σ H Q ⟨ρ, η, ι, av, s, t, h⟩ =>
    bindG s t h fun v d η₁ ι₁ H₁ e r t1 x1 s1 h1 => bindG s1 t1 h1 fun vs ds η₂ ι₂ H₂ e2 r2 t2 x2 s2 h2 => h2 (v :: vs) H₂ ι₂ (.cons (Rep.ext x2 r) r2) t2 (.refl _ _)
theorem dk_nil : PK X [] (tA X.mg T E fNil) := PK.imp pk_nil fun σ H Q ⟨ρ, η, ι, av, s, t, h⟩ => h [] H ι .nil t (.refl _ _)
theorem dk_cons {e : Expr} {kws : List Keyword} {nm : Option Str} {kpos : Pos} {f : FE} {g : FA} (ha : PE X e (tE X.mg T E f)) (hr : PK X kws (tA X.mg T E g)) : PK X (⟨nm, e, kpos⟩ :: kws) (tA X.mg T E (fCons f g)) :=
  PK.imp (pk_cons ha hr) fun σ H Q ⟨ρ, η, ι, av, s, t, h⟩ =>
    bindG s t h fun v d η₁ ι₁ H₁ e r t1 x1 s1 h1 => bindG s1 t1 h1 fun vs ds η₂ ι₂ H₂ e2 r2 t2 x2 s2 h2 => h2 (v :: vs) H₂ ι₂ (.cons (Rep.ext x2 r) r2) t2 (.refl _ _)
/-- not longer than a line -/
def fits {α : Type} (xs : List α) : Bool := decide (xs.length ≤ sizeLine)
def fTup (g : FA) : FE := fun ρ η => (g ρ η).bind fun ds η1 => if fits ds then .ok (.tup ds) η1 else .stk
def fLst (g : FA) : FE := fun ρ η => (g ρ η).bind fun ds η1 => if fits ds then .ok (.lst ds) η1 else .stk
/-- a list that will change -/
def fLstM (g : FA) : FE := fun ρ η => (g ρ η).bind fun ds η1 => if fits ds then .ok (.ref η1.length) (η1 ++ [.l ds]) else .stk
theorem fits_of {α β : Type} {xs : List α} {ys : List β} (e : xs.length = ys.length) (h : fits ys = true) : xs.length ≤ sizeLine := by
  rw [e]
  exact of_decide_eq_true h
theorem new_tup {mg : Str → Option Value} {ι av : List Addr} {H : Hp} {η : Store} {vs : List V} {ds : List D} {p : Addr} (t : StRep mg T ι av H η) (r : Reps mg ι av H vs ds) (hp : H p = none) : Rep mg ι av (upd H p (.tup vs)) (.ref p) (.tup ds) :=
  .tup upd_same (t.fresh hp).1 (t.fresh hp).2 (r.ext (Ext.new hp))
theorem new_lst {mg : Str → Option Value} {ι av : List Addr} {H : Hp} {η : Store} {vs : List V} {ds : List D} {p : Addr} (t : StRep mg T ι av H η) (r : Reps mg ι av H vs ds) (hp : H p = none) : Rep mg ι av (upd H p (.lst vs)) (.ref p) (.lst ds) :=
  .lst upd_same (t.fresh hp).1 (t.fresh hp).2 (r.ext (Ext.new hp))
theorem d_tup {es : List Expr} {x1} {pos : Pos} {g : FA} (ha : PA X es (tA X.mg T E g)) : PE X (.Tuple es x1 pos) (tE X.mg T E (fTup g)) :=
  PE.imp (pe_tup ha) fun σ H Q ⟨ρ, η, ι, av, s, t, h⟩ => bindG s t h fun vs ds η₁ ι₁ H₁ e r t1 x1 s1 h1 => by
    by_cases hf : fits ds = true
    · rw [if_pos hf] at h1
      exact ⟨fits_of r.length hf, fun p hp => h1 _ _ ι₁ (new_tup t1 r hp) (t1.new hp) (Ext.new hp)⟩
    · rw [if_neg hf] at h1
      exact h1.elim
theorem d_lst {es : List Expr} {pos : Pos} {g : FA} (ha : PA X es (tA X.mg T E g)) : PE X (.List es pos) (tE X.mg T E (fLst g)) :=
  PE.imp (pe_lst ha) fun σ H Q ⟨ρ, η, ι, av, s, t, h⟩ => bindG s t h fun vs ds η₁ ι₁ H₁ e r t1 x1 s1 h1 => by
    by_cases hf : fits ds = true
    · rw [if_pos hf] at h1
      exact ⟨fits_of r.length hf, fun p hp => h1 _ _ ι₁ (new_lst t1 r hp) (t1.new hp) (Ext.new hp)⟩
    · rw [if_neg hf] at h1
      exact h1.elim
theorem new_ref {mg : Str → Option Value} {ι av : List Addr} {H : Hp} {η : Store} {p : Addr} (t : StRep mg T ι av H η) : Rep mg (ι ++ [p]) av H (.ref p) (.ref η.length) :=
  .ref (by rw [← t.len, List.getElem?_append_right (Nat.le_refl _), Nat.sub_self]; rfl)
theorem d_lstM {es : List Expr} {pos : Pos} {g : FA} (ha : PA X es (tA X.mg T E g)) : PE X (.List es pos) (tE X.mg T E (fLstM g)) :=
  PE.imp (pe_lst ha) fun σ H Q ⟨ρ, η, ι, av, s, t, h⟩ => bindG s t h fun vs ds η₁ ι₁ H₁ e r t1 x1 s1 h1 => by
    by_cases hf : fits ds = true
    · rw [if_pos hf] at h1
      refine ⟨fits_of r.length hf, fun p hp => h1 _ _ (ι₁ ++ [p]) ?_ (t1.newM hp (.l upd_same (r.ext (Ext.newM hp)))) (Ext.newM hp)⟩
      exact .ref (by rw [← t1.len, List.getElem?_append_right (Nat.le_refl _), Nat.sub_self]; rfl)
    · rw [if_neg hf] at h1
      exact h1.elim

/-! ### operators, by values -/
/-- op on two values -/
def rOp (mg : Str → Option Value) (T : List (Addr × Str)) (op : Store → D → D → Option D) : R2 := fun x y H Q => ∃ (ι av : List Addr) (η : Store) (d1 d2 d : D), StRep mg T ι av H η ∧ Rep mg ι av H x d1 ∧ Rep mg ι av H y d2 ∧ op η d1 d2 = some d ∧
  ∀ (v : V) (H' : Hp), Rep mg ι av H' v d → StRep mg T ι av H' η → Ext ι H ι H' → Q v H'
def f2 (op : Store → D → D → Option D) (f g : FE) : FE := fun ρ η => (f ρ η).bind fun x η1 => (g ρ η1).bind fun y η2 => R.of η2 (op η2 x y)
theorem f2_reads {mg : Str → Option Value} {op : Store → D → D → Option D} {f g : FE} {σ : L2.St} {H : Hp} {Q : VK} (h : tE mg T E (f2 op f g) σ H Q) : tOp (rOp mg T op) (tE mg T E f) (tE mg T E g) σ H Q := by
  obtain ⟨ρ, η, ι, av, s, t, h⟩ := h
  refine bindG s t h fun v d η₁ ι₁ H₁ e r t1 x1 s1 h1 => bindG s1 t1 h1 fun w d' η₂ ι₂ H₂ e2 r2 t2 x2 s2 h2 => ?_
  cases eo : op η₂ d d' with
  | none => rw [eo] at h2; exact h2.elim
  | some z =>
    rw [eo] at h2
    exact ⟨ι₂, av, η₂, d, d', z, t2, Rep.ext x2 r, r2, eo, fun u H' r3 t3 x3 => h2 u H' ι₂ r3 t3 x3⟩
theorem d_bin {op : Operator} {o : Store → D → D → Option D} {a b : Expr} {pos : Pos} {f g : FE} (ho : OpR X (binaryOp op) (rOp X.mg T o)) (ha : PE X a (tE X.mg T E f)) (hb : PE X b (tE X.mg T E g)) : PE X (.BinOp a op b pos) (tE X.mg T E (f2 o f g)) :=
  PE.imp (pe_op ho ha hb) fun _ _ _ h => f2_reads h
theorem d_cmp {op : CmpOp} {o : Store → D → D → Option D} {a b : Expr} {pos : Pos} {f g : FE} (ho : OpR X (compareOp op) (rOp X.mg T o)) (ha : PE X a (tE X.mg T E f)) (hb : PE X b (tE X.mg T E g)) (hm : behindInMarks op b = false := by rfl) : PE X (.Compare a [op] [b] pos) (tE X.mg T E (f2 o f g)) :=
  PE.imp (pe_cmpR ho ha hb hm) fun _ _ _ h => f2_reads h
/-- the bool that a value is -/
def unB : D → Option Bool
  | .bl b => some b
  | _ => none
def fTest (f : FE) : FT := fun ρ η => (f ρ η).bind fun d η1 => R.of η1 (unB d)
theorem unB_some {d : D} {b : Bool} (h : unB d = some b) : d = .bl b := by
  cases d <;> simp [unB] at h
  rw [h]
theorem fTest_reads {mg : Str → Option Value} {f : FE} {σ : L2.St} {H : Hp} {Q : Bool → Hp → Prop} (h : tT mg T E (fTest f) σ H Q) : tE mg T E f σ H fun v H' => ∃ k, v = .bl k ∧ Q k H' := by
  obtain ⟨ρ, η, ι, av, s, t, h⟩ := h
  refine bindG s t h fun v d η₁ ι₁ H₁ e r t1 x1 s1 h1 => ?_
  cases eb : unB d with
  | none => rw [eb] at h1; exact h1.elim
  | some b =>
    rw [eb] at h1
    obtain rfl := unB_some eb
    cases r
    exact ⟨b, rfl, h1 b H₁ ι₁ rfl t1 (.refl _ _)⟩
theorem d_tcmp {op : CmpOp} {o : Store → D → D → Option D} {a b : Expr} {pos : Pos} {f g : FE} (ho : OpR X (compareOp op) (rOp X.mg T o)) (ha : PE X a (tE X.mg T E f)) (hb : PE X b (tE X.mg T E g)) (hm : behindInMarks op b = false := by rfl) : PT X (.Compare a [op] [b] pos) (tT X.mg T E (fTest (f2 o f g))) :=
  PT.imp (pt_cmpR ho ha hb hm) fun σ H Q h => by
    obtain ⟨ρ, η, ι, av, s, t, h⟩ := fTest_reads h
    exact f2_reads ⟨ρ, η, ι, av, s, t, h⟩
/-- an expression that is a bool, as a test -/
theorem d_tval {e : Expr} {f : FE} (ha : PE X e (tE X.mg T E f)) (he : ∀ whole, isTrue e X.env whole = (do let v ← whole; standAt e.pos; holding [v] (truthy v)) := by intro _; rfl) : PT X e (tT X.mg T E (fTest f)) :=
  PT.imp (pt_val ha he) fun σ H Q h => fTest_reads h

/-! ### and, or, not -/
def fAnd (f g : FT) : FT := fun ρ η => (f ρ η).bind fun b η1 => if b then g ρ η1 else .ok false η1
def fOr (f g : FT) : FT := fun ρ η => (f ρ η).bind fun b η1 => if b then .ok true η1 else g ρ η1
def fNot (f : FT) : FT := fun ρ η => (f ρ η).bind fun b η1 => .ok (!b) η1
theorem w_and1 {a : Expr} {pos : Pos} {f : FT} (ha : PT X a (tT X.mg T E f)) : PW X (.BoolOp .And [a] pos) (tT X.mg T E f) := pw_and1 ha
theorem w_or1 {a : Expr} {pos : Pos} {f : FT} (ha : PT X a (tT X.mg T E f)) : PW X (.BoolOp .Or [a] pos) (tT X.mg T E f) := pw_or1 ha
theorem w_and {a b : Expr} {rest : List Expr} {pos : Pos} {f g : FT} (ha : PT X a (tT X.mg T E f)) (hb : PW X (.BoolOp .And (b :: rest) pos) (tT X.mg T E g)) : PW X (.BoolOp .And (a :: b :: rest) pos) (tT X.mg T E (fAnd f g)) :=
  PW.imp (pw_and ha hb) fun σ H Q ⟨ρ, η, ι, av, s, t, h⟩ => bindG s t h fun c b η₁ ι₁ H₁ e r t1 x1 s1 h1 => by
    obtain rfl : c = b := r
    cases c with
    | true => exact ⟨ρ, η₁, ι₁, av, s1, t1, h1⟩
    | false => exact h1 false H₁ ι₁ rfl t1 (.refl _ _)
theorem w_or {a b : Expr} {rest : List Expr} {pos : Pos} {f g : FT} (ha : PT X a (tT X.mg T E f)) (hb : PW X (.BoolOp .Or (b :: rest) pos) (tT X.mg T E g)) : PW X (.BoolOp .Or (a :: b :: rest) pos) (tT X.mg T E (fOr f g)) :=
  PW.imp (pw_or ha hb) fun σ H Q ⟨ρ, η, ι, av, s, t, h⟩ => bindG s t h fun c b η₁ ι₁ H₁ e r t1 x1 s1 h1 => by
    obtain rfl : c = b := r
    cases c with
    | false => exact ⟨ρ, η₁, ι₁, av, s1, t1, h1⟩
    | true => exact h1 true H₁ ι₁ rfl t1 (.refl _ _)
theorem d_tnot {a : Expr} {pos : Pos} {f : FT} (ha : PT X a (tT X.mg T E f)) : PT X (.UnaryOp .Not a pos) (tT X.mg T E (fNot f)) :=
  PT.imp (pt_not ha) fun σ H Q ⟨ρ, η, ι, av, s, t, h⟩ => bindG s t h fun c b η₁ ι₁ H₁ e r t1 x1 s1 h1 => by
    obtain rfl : c = b := r
    exact h1 (!c) H₁ ι₁ rfl t1 (.refl _ _)
/-- .. as values -/
def fAndV (f g : FE) : FE := fun ρ η => (f ρ η).bind fun d η1 => (R.of η1 (unB d)).bind fun b η1 => if b then g ρ η1 else .ok (.bl false) η1
def fOrV (f g : FE) : FE := fun ρ η => (f ρ η).bind fun d η1 => (R.of η1 (unB d)).bind fun b η1 => if b then .ok (.bl true) η1 else g ρ η1
def fNotV (f : FE) : FE := fun ρ η => (f ρ η).bind fun d η1 => (R.of η1 (unB d)).bind fun b η1 => .ok (.bl !b) η1
theorem d_one {op} {a : Expr} {pos : Pos} {f : FE} (ha : PE X a (tE X.mg T E f)) : PE X (.BoolOp op [a] pos) (tE X.mg T E f) := pe_one ha
theorem d_and {a b : Expr} {rest : List Expr} {pos : Pos} {f g : FE} (ha : PE X a (tE X.mg T E f)) (hb : PE X (.BoolOp .And (b :: rest) pos) (tE X.mg T E g)) : PE X (.BoolOp .And (a :: b :: rest) pos) (tE X.mg T E (fAndV f g)) :=
  PE.imp (pe_and ha hb) fun σ H Q ⟨ρ, η, ι, av, s, t, h⟩ => bindG s t h fun v d η₁ ι₁ H₁ e r t1 x1 s1 h1 => by
    cases eb : unB d with
    | none => rw [eb] at h1; exact h1.elim
    | some b =>
      rw [eb] at h1
      obtain rfl := unB_some eb
      cases r
      refine ⟨b, rfl, ?_⟩
      cases b with
      | true => exact ⟨ρ, η₁, ι₁, av, s1, t1, h1⟩
      | false => exact h1 (.bl false) H₁ ι₁ (.bl false) t1 (.refl _ _)
theorem d_or {a b : Expr} {rest : List Expr} {pos : Pos} {f g : FE} (ha : PE X a (tE X.mg T E f)) (hb : PE X (.BoolOp .Or (b :: rest) pos) (tE X.mg T E g)) : PE X (.BoolOp .Or (a :: b :: rest) pos) (tE X.mg T E (fOrV f g)) :=
  PE.imp (pe_or ha hb) fun σ H Q ⟨ρ, η, ι, av, s, t, h⟩ => bindG s t h fun v d η₁ ι₁ H₁ e r t1 x1 s1 h1 => by
    cases eb : unB d with
    | none => rw [eb] at h1; exact h1.elim
    | some b =>
      rw [eb] at h1
      obtain rfl := unB_some eb
      cases r
      refine ⟨b, rfl, ?_⟩
      cases b with
      | false => exact ⟨ρ, η₁, ι₁, av, s1, t1, h1⟩
      | true => exact h1 (.bl true) H₁ ι₁ (.bl true) t1 (.refl _ _)
theorem d_not {a : Expr} {pos : Pos} {f : FE} (ha : PE X a (tE X.mg T E f)) : PE X (.UnaryOp .Not a pos) (tE X.mg T E (fNotV f)) :=
  PE.imp (pe_not ha) fun σ H Q ⟨ρ, η, ι, av, s, t, h⟩ => bindG s t h fun v d η₁ ι₁ H₁ e r t1 x1 s1 h1 => by
    cases eb : unB d with
    | none => rw [eb] at h1; exact h1.elim
    | some b =>
      rw [eb] at h1
      obtain rfl := unB_some eb
      cases r
      exact ⟨b, rfl, h1 (.bl !b) H₁ ι₁ (.bl _) t1 (.refl _ _)⟩
def fIf (c : FT) (f g : FE) : FE := fun ρ η => (c ρ η).bind fun b η1 => if b then f ρ η1 else g ρ η1
theorem d_if {c a b : Expr} {pos : Pos} {h : FT} {f g : FE} (hc : PT X c (tT X.mg T E h)) (ha : PE X a (tE X.mg T E f)) (hb : PE X b (tE X.mg T E g)) : PE X (.IfExp c a b pos) (tE X.mg T E (fIf h f g)) :=
  PE.imp (pe_ifExp hc ha hb) fun σ H Q ⟨ρ, η, ι, av, s, t, h⟩ => bindG s t h fun c b η₁ ι₁ H₁ e r t1 x1 s1 h1 => by
    obtain rfl : c = b := r
    cases c with
    | true => exact ⟨ρ, η₁, ι₁, av, s1, t1, h1⟩
    | false => exact ⟨ρ, η₁, ι₁, av, s1, t1, h1⟩
end
end Dn
set_option Elab.async false
set_option linter.all false
set_option maxRecDepth 100000
/-! Dn, 3: operators by values. -/
namespace Dn
open PySem PySem.Spec PyProof.Rows L2

/-! ### what a value is -/
def lstOf (η : Store) : D → Option (List D)
  | .lst xs => some xs
  | .ref i => match η[i]? with
    | some (.l xs) => some xs
    | _ => none
  | _ => none
/- plain data without dicts and errors -/
mutual
def toP0 : D → Option PyData
  | .non => some .none
  | .bl b => some (.bool b)
  | .int i => some (.int i)
  | .str x => some (.str x)
  | .tup xs => (toPs xs).map .tuple
  | .lst xs => (toPs xs).map .list
  | .scr xs => some (.list (xs.map .int))
  | .dK _ _ | .dT _ _ | .ref _ | .exc _ _ => none
def toPs : List D → Option (List PyData)
  | [] => some []
  | x :: xs => match toP0 x, toPs xs with
    | some p, some ps => some (p :: ps)
    | _, _ => none
end
def toP (η : Store) : D → Option PyData
  | .ref i => match η[i]? with
    | some (.l xs) => (toPs xs).map .list
    | _ => none
  | d => toP0 d
@[simp] theorem toPs_nil : toPs [] = some [] := rfl
theorem toPs_cons {x : D} {xs : List D} {p : PyData} {ps : List PyData} (h1 : toP0 x = some p) (h2 : toPs xs = some ps) : toPs (x :: xs) = some (p :: ps) := by
  rw [toPs, h1, h2]
theorem toPs_inv {x : D} {xs : List D} {qs : List PyData} (h : toPs (x :: xs) = some qs) : ∃ p ps, toP0 x = some p ∧ toPs xs = some ps ∧ qs = p :: ps := by
  rw [toPs] at h
  cases h1 : toP0 x with
  | none => rw [h1] at h; cases h
  | some p =>
    cases h2 : toPs xs with
    | none => rw [h1, h2] at h; cases h
    | some ps =>
      rw [h1, h2] at h
      exact ⟨p, ps, rfl, rfl, (Option.some.inj h).symm⟩

section
variable {mg : Str → Option Value} {T : List (Addr × Str)} {ι av : List Addr} {H : Hp} {η : Store}
theorem lstOf_rep {v : V} {d : D} {xs : List D} (t : StRep mg T ι av H η) (r : Rep mg ι av H v d) (h : lstOf η d = some xs) : ∃ a vs, v = .ref a ∧ H a = some (.lst vs) ∧ Reps mg ι av H vs xs := by
  cases r with
  | lst e _ _ q =>
    cases h
    exact ⟨_, _, rfl, e, q⟩
  | ref e =>
    simp only [lstOf] at h
    obtain ⟨m, h1, h2⟩ := t.has e
    rw [h1] at h
    cases h2 with
    | l e2 q =>
      cases h
      exact ⟨_, _, rfl, e2, q⟩
    | dK _ _ _ => cases h
    | dT _ _ _ => cases h
  | _ => cases h
theorem Rep.dpInts {K : PySem.W.Frag} : ∀ xs : List Int, DpAll K H (xs.map V.int) (xs.map PyData.int)
  | [] => .nil
  | x :: xs => .cons (.int x) (Rep.dpInts xs)
mutual
theorem Rep.dp {K : PySem.W.Frag} : ∀ {v : V} {d : D} {p : PyData}, Rep mg ι av H v d → toP0 d = some p → Dp K H v p
  | _, _, _, .non, h => by cases h; exact .non
  | _, _, _, .bl b, h => by cases h; exact .bl b
  | _, _, _, .int i, h => by cases h; exact .int i
  | _, _, _, .str x, h => by cases h; exact .str x
  | _, _, p, @Rep.tup _ _ _ _ _ _ ds e _ _ q, h => by
    rw [toP0] at h
    obtain ⟨ps, h1, rfl⟩ := Option.map_eq_some_iff.mp h
    exact .tup (SqT.of e) (Reps.dp q h1)
  | _, _, p, @Rep.lst _ _ _ _ _ _ ds e _ _ q, h => by
    rw [toP0] at h
    obtain ⟨ps, h1, rfl⟩ := Option.map_eq_some_iff.mp h
    exact .lst (SqL.of e) (Reps.dp q h1)
  | _, _, p, .scr e _ _, h => by
    cases h
    exact .lst (.inl (.inr ⟨_, e⟩)) (Rep.dpInts _)
  | _, _, _, .dK _ _ _ _ _, h => by cases h
  | _, _, _, .dT _ _ _ _ _, h => by cases h
  | _, _, _, .ref _, h => by cases h
  | _, _, _, .exc _ _ _ _ _ _ _ _, h => by cases h
theorem Reps.dp {K : PySem.W.Frag} : ∀ {vs : List V} {ds : List D} {ps : List PyData}, Reps mg ι av H vs ds → toPs ds = some ps → DpAll K H vs ps
  | _, _, _, .nil, h => by cases h; exact .nil
  | _, _, _, .cons r t, h => by
    obtain ⟨p, ps, h1, h2, rfl⟩ := toPs_inv h
    exact .cons (Rep.dp r h1) (Reps.dp t h2)
end
theorem Rep.dpη {K : PySem.W.Frag} {v : V} {d : D} {p : PyData} (t : StRep mg T ι av H η) (r : Rep mg ι av H v d) (h : toP η d = some p) : Dp K H v p := by
  cases d with
  | ref i =>
    cases r with
    | ref e =>
      simp only [toP] at h
      obtain ⟨m, h1, h2⟩ := t.has e
      rw [h1] at h
      cases h2 with
      | l e2 q =>
        obtain ⟨ps, h3, rfl⟩ := Option.map_eq_some_iff.mp h
        exact .lst (SqL.of e2) (q.dp h3)
      | dK _ _ _ => cases h
      | dT _ _ _ => cases h
  | _ => exact Rep.dp r h
end
theorem plainInts : ∀ xs : List Int, PyData.plainAll (xs.map .int) = true
  | [] => rfl
  | x :: xs => by
    rw [List.map_cons, PyData.plainAll, plainInts xs]
    rfl
mutual
theorem toP0_plain : ∀ (d : D) (p : PyData), toP0 d = some p → p.plain = true
  | .non, _, h => by cases h; rfl
  | .bl b, _, h => by cases h; rfl
  | .int i, _, h => by cases h; rfl
  | .str x, _, h => by cases h; rfl
  | .tup xs, p, h => by
    rw [toP0] at h
    obtain ⟨ps, h1, rfl⟩ := Option.map_eq_some_iff.mp h
    rw [PyData.plain]
    exact toPs_plain xs ps h1
  | .lst xs, p, h => by
    rw [toP0] at h
    obtain ⟨ps, h1, rfl⟩ := Option.map_eq_some_iff.mp h
    rw [PyData.plain]
    exact toPs_plain xs ps h1
  | .scr xs, p, h => by
    cases h
    rw [PyData.plain]
    exact plainInts xs
  | .dK _ _, _, h => by cases h
  | .dT _ _, _, h => by cases h
  | .ref _, _, h => by cases h
  | .exc _ _, _, h => by cases h
theorem toPs_plain : ∀ (ds : List D) (ps : List PyData), toPs ds = some ps → PyData.plainAll ps = true
  | [], _, h => by cases h; rfl
  | d :: ds, qs, h => by
    obtain ⟨p, ps, h1, h2, rfl⟩ := toPs_inv h
    rw [PyData.plainAll, toP0_plain d p h1, toPs_plain ds ps h2]
    rfl
end
theorem toP_plain {η : Store} {d : D} {p : PyData} (h : toP η d = some p) : p.plain = true := by
  cases d with
  | ref i =>
    simp only [toP] at h
    split at h
    · obtain ⟨ps, h3, rfl⟩ := Option.map_eq_some_iff.mp h
      rw [PyData.plain]
      exact toPs_plain _ ps h3
    · cases h
  | _ => exact toP0_plain _ p h

/-! ### arithmetic -/
def dAdd (η : Store) (x y : D) : Option D := match x, y with
  | .int i, .int j => some (.int (i + j))
  | .str a, .str b => if a.length + b.length ≤ sizeLine then some (.str (a ++ b)) else none
  | .tup a, .tup b => if a.length + b.length ≤ sizeLine then some (.tup (a ++ b)) else none
  | x, y => match lstOf η x, lstOf η y with
    | some a, some b => if a.length + b.length ≤ sizeLine then some (.lst (a ++ b)) else none
    | _, _ => none
def dSub (_ : Store) (x y : D) : Option D := match x, y with
  | .int i, .int j => some (.int (i - j))
  | _, _ => none
def dMul (_ : Store) (x y : D) : Option D := match x, y with
  | .int i, .int j => if i.natAbs.log2 + j.natAbs.log2 < 1000000 then some (.int (i * j)) else none
  | .tup a, .int k => if a ≠ [] ∧ 2 ≤ k ∧ k ≤ 1000 ∧ a.length ≤ 1000 then some (.tup (List.replicate k.toNat a).flatten) else none
  | _, _ => none
def dFdiv (_ : Store) (x y : D) : Option D := match x, y with
  | .int i, .int j => if 0 < j ∧ j.natAbs.log2 < 9000 then some (.int (i / j)) else none
  | _, _ => none
def dMod (_ : Store) (x y : D) : Option D := match x, y with
  | .int i, .int j => if 0 < j then some (.int (i % j)) else none
  | _, _ => none
def dPow (_ : Store) (x y : D) : Option D := match x, y with
  | .int i, .int j => if 0 ≤ j ∧ (Builtin.Int.intBits i : Int) * j ≤ 2 ^ 27 then some (.int (i ^ j.toNat)) else none
  | _, _ => none
def dEq (η : Store) (x y : D) : Option D := match toP η x, toP η y with
  | some p, some q => if min p.depth q.depth ≤ 64 then some (.bl (PyData.eqv p q)) else none
  | _, _ => none
def dNe (η : Store) (x y : D) : Option D := match toP η x, toP η y with
  | some p, some q => if min p.depth q.depth ≤ 64 then some (.bl (!PyData.eqv p q)) else none
  | _, _ => none
def dLt (_ : Store) (x y : D) : Option D := match x, y with
  | .int i, .int j => some (.bl (decide (i < j)))
  | .str i, .str j => some (.bl (decide (i.cps.toList < j.cps.toList)))
  | _, _ => none
def dLe (_ : Store) (x y : D) : Option D := match x, y with
  | .int i, .int j => some (.bl (decide (i ≤ j)))
  | _, _ => none
def dGt (_ : Store) (x y : D) : Option D := match x, y with
  | .int i, .int j => some (.bl (decide (j < i)))
  | _, _ => none
def dGe (_ : Store) (x y : D) : Option D := match x, y with
  | .int i, .int j => some (.bl (decide (j ≤ i)))
  | _, _ => none
def isNon : D → Bool
  | .non => true
  | _ => false
/-- x is None -/
def dIsN (_ : Store) (x y : D) : Option D := match y with
  | .non => some (.bl (isNon x))
  | _ => none
def dNotN (_ : Store) (x y : D) : Option D := match y with
  | .non => some (.bl (!isNon x))
  | _ => none
/-- x is True -/
def dIsB (_ : Store) (x y : D) : Option D := match x, y with
  | .bl a, .bl b => some (.bl (decide (a = b)))
  | _, _ => none
def dNotB (_ : Store) (x y : D) : Option D := match x, y with
  | .bl a, .bl b => some (.bl (!decide (a = b)))
  | _, _ => none

theorem OpR.imp {X : Cx} {f : Value → Value → Sem Value} {r r' : R2} (h : OpR X f r) (k : ∀ x y H Q, r' x y H Q → r x y H Q) : OpR X f r' := fun pins s σ H x y v u Q I rx ry w => h pins s σ H x y v u Q I rx ry (k x y H Q w)
section
variable {X : Cx} {T : List (Addr × Str)}
theorem o_sub : OpR X (binaryOp .Sub) (rOp X.mg T dSub) := OpR.imp op_sub fun x y H Q ⟨ι, av, η, d1, d2, d, t, r1, r2, e, k⟩ => by
  unfold dSub at e
  split at e
  · cases e
    cases r1
    cases r2
    exact ⟨_, _, rfl, rfl, k _ H (.int _) t (.refl _ _)⟩
  · cases e
theorem o_add : OpR X (binaryOp .Add) (rOp X.mg T dAdd) := by
  intro pins s σ H x y v u Q I rx ry ⟨ι, av, η, d1, d2, d, t, r1, r2, e, k⟩
  unfold dAdd at e
  split at e
  · cases e
    cases r1
    cases r2
    exact op_add pins s σ H _ _ v u Q I rx ry ⟨_, _, rfl, rfl, k _ H (.int _) t (.refl _ _)⟩
  · rename_i a b
    by_cases hz : a.length + b.length ≤ sizeLine
    · rw [if_pos hz] at e
      cases e
      cases r1
      cases r2
      exact op_add_str pins s σ H _ _ v u Q I rx ry ⟨_, _, rfl, rfl, hz, k _ H (.str _) t (.refl _ _)⟩
    · rw [if_neg hz] at e
      cases e
  · rename_i a b
    by_cases hz : a.length + b.length ≤ sizeLine
    · rw [if_pos hz] at e
      cases e
      cases r1 with
      | tup e1 n1 m1 q1 =>
        cases r2 with
        | tup e2 n2 m2 q2 =>
          refine op_catA pins s σ H _ _ v u Q I rx ry ⟨_, _, _, _, rfl, rfl, SqT.of e1, SqT.of e2, by rw [q1.length, q2.length]; exact hz, fun z => ?_, fun z1 z2 => ?_, fun z1 z2 p hp => ?_⟩
          · subst z
            cases q1
            exact k _ H (.tup e2 n2 m2 q2) t (.refl _ _)
          · subst z2
            cases q2
            rw [List.append_nil] at k
            exact k _ H (.tup e1 n1 m1 q1) t (.refl _ _)
          · exact k _ _ (new_tup t (q1.append q2) hp) (t.new hp) (Ext.new hp)
    · rw [if_neg hz] at e
      cases e
  · split at e
    · rename_i a b h1 h2
      by_cases hz : a.length + b.length ≤ sizeLine
      · rw [if_pos hz] at e
        cases e
        obtain ⟨a1, vs1, rfl, e1, q1⟩ := lstOf_rep t r1 h1
        obtain ⟨a2, vs2, rfl, e2, q2⟩ := lstOf_rep t r2 h2
        exact op_cat pins s σ H _ _ v u Q I rx ry ⟨_, _, _, _, rfl, rfl, e1, e2, by rw [q1.length, q2.length]; exact hz, fun p hp => k _ _ (new_lst t (q1.append q2) hp) (t.new hp) (Ext.new hp)⟩
      · rw [if_neg hz] at e
        cases e
    · cases e
theorem o_mul : OpR X (binaryOp .Mult) (rOp X.mg T dMul) := by
  intro pins s σ H x y v u Q I rx ry ⟨ι, av, η, d1, d2, d, t, r1, r2, e, k⟩
  unfold dMul at e
  split at e
  · split at e
    · rename_i hc
      cases e
      cases r1
      cases r2
      exact op_mulW pins s σ H _ _ v u Q I rx ry ⟨_, _, rfl, rfl, hc, k _ H (.int _) t (.refl _ _)⟩
    · cases e
  · split at e
    · rename_i a kk hc
      cases e
      cases r2
      cases r1 with
      | tup e1 n1 m1 q1 =>
        exact op_repT pins s σ H _ _ v u Q I rx ry ⟨_, _, _, rfl, rfl, SqT.of e1, fun z => hc.1 (by subst z; cases q1; rfl), hc.2.1, hc.2.2.1, by rw [q1.length]; exact hc.2.2.2, fun p hp => k _ _ (new_tup t (q1.flat _) hp) (t.new hp) (Ext.new hp)⟩
    · cases e
  · cases e
theorem o_fdiv : OpR X (binaryOp .FloorDiv) (rOp X.mg T dFdiv) := OpR.imp op_fdivW fun x y H Q ⟨ι, av, η, d1, d2, d, t, r1, r2, e, k⟩ => by
  unfold dFdiv at e
  split at e
  · split at e
    · rename_i hc
      cases e
      cases r1
      cases r2
      exact ⟨_, _, rfl, rfl, hc, k _ H (.int _) t (.refl _ _)⟩
    · cases e
  · cases e
theorem o_mod : OpR X (binaryOp .Mod) (rOp X.mg T dMod) := OpR.imp op_mod fun x y H Q ⟨ι, av, η, d1, d2, d, t, r1, r2, e, k⟩ => by
  unfold dMod at e
  split at e
  · split at e
    · rename_i hc
      cases e
      cases r1
      cases r2
      exact ⟨_, _, rfl, rfl, hc, k _ H (.int _) t (.refl _ _)⟩
    · cases e
  · cases e
theorem op_powW : OpR X (binaryOp .Pow) (rI (fun i j => 0 ≤ j ∧ (Builtin.Int.intBits i : Int) * j ≤ 2 ^ 27) fun i j => .int (i ^ j.toNat)) := opI fun _ _ _ _ _ _ _ hc q => pow_int hc.1 hc.2 q
theorem o_pow : OpR X (binaryOp .Pow) (rOp X.mg T dPow) := OpR.imp op_powW fun x y H Q ⟨ι, av, η, d1, d2, d, t, r1, r2, e, k⟩ => by
  unfold dPow at e
  split at e
  · split at e
    · rename_i hc
      cases e
      cases r1
      cases r2
      exact ⟨_, _, rfl, rfl, hc, k _ H (.int _) t (.refl _ _)⟩
    · cases e
  · cases e
theorem o_eq (hu : X.A.units + 65 < cLine) : OpR X (compareOp .Eq) (rOp X.mg T dEq) := by
  intro pins s σ H x y v u Q I rx ry ⟨ι, av, η, d1, d2, d, t, r1, r2, e, k⟩
  unfold dEq at e
  split at e
  · rename_i p q h1 h2
    split at e
    · rename_i hd
      cases e
      obtain ⟨as, q1⟩ := Dp.reads I _ x v (r1.dpη t h1) rx
      obtain ⟨bs, q2⟩ := Dp.reads I _ y u (r2.dpη t h2) ry
      exact SeqAt.eq_plain q1 q2 (toP_plain h1) (toP_plain h2) (by omega) ⟨.bl _, H, I, rfl, k _ H (.bl _) t (.refl _ _)⟩
    · cases e
  · cases e
theorem o_ne (hu : X.A.units + 65 < cLine) : OpR X (compareOp .NotEq) (rOp X.mg T dNe) := by
  intro pins s σ H x y v u Q I rx ry ⟨ι, av, η, d1, d2, d, t, r1, r2, e, k⟩
  unfold dNe at e
  split at e
  · rename_i p q h1 h2
    split at e
    · rename_i hd
      cases e
      obtain ⟨as, q1⟩ := Dp.reads I _ x v (r1.dpη t h1) rx
      obtain ⟨bs, q2⟩ := Dp.reads I _ y u (r2.dpη t h2) ry
      exact SeqAt.ne_plain q1 q2 (toP_plain h1) (toP_plain h2) (by omega) ⟨.bl _, H, I, rfl, k _ H (.bl _) t (.refl _ _)⟩
    · cases e
  · cases e
theorem o_lt : OpR X (compareOp .Lt) (rOp X.mg T dLt) := by
  intro pins s σ H x y v u Q I rx ry ⟨ι, av, η, d1, d2, d, t, r1, r2, e, k⟩
  unfold dLt at e
  split at e
  · cases e
    cases r1
    cases r2
    exact op_lt pins s σ H _ _ v u Q I rx ry ⟨_, _, rfl, rfl, k _ H (.bl _) t (.refl _ _)⟩
  · cases e
    cases r1
    cases r2
    exact op_lt_str pins s σ H _ _ v u Q I rx ry ⟨_, _, rfl, rfl, k _ H (.bl _) t (.refl _ _)⟩
  · cases e
theorem o_le : OpR X (compareOp .LtE) (rOp X.mg T dLe) := OpR.imp op_le fun x y H Q ⟨ι, av, η, d1, d2, d, t, r1, r2, e, k⟩ => by
  unfold dLe at e
  split at e
  · cases e
    cases r1
    cases r2
    exact ⟨_, _, rfl, rfl, k _ H (.bl _) t (.refl _ _)⟩
  · cases e
theorem o_gt : OpR X (compareOp .Gt) (rOp X.mg T dGt) := OpR.imp op_gt fun x y H Q ⟨ι, av, η, d1, d2, d, t, r1, r2, e, k⟩ => by
  unfold dGt at e
  split at e
  · cases e
    cases r1
    cases r2
    exact ⟨_, _, rfl, rfl, k _ H (.bl _) t (.refl _ _)⟩
  · cases e
theorem o_ge : OpR X (compareOp .GtE) (rOp X.mg T dGe) := OpR.imp op_ge fun x y H Q ⟨ι, av, η, d1, d2, d, t, r1, r2, e, k⟩ => by
  unfold dGe at e
  split at e
  · cases e
    cases r1
    cases r2
    exact ⟨_, _, rfl, rfl, k _ H (.bl _) t (.refl _ _)⟩
  · cases e
theorem isNon_rep {mg : Str → Option Value} {ι av : List Addr} {H : Hp} {v : V} {d : D} (r : Rep mg ι av H v d) : decide (v = .non) = isNon d := by
  cases r <;> rfl
theorem o_isN : OpR X (compareOp .Is) (rOp X.mg T dIsN) := OpR.imp op_isN fun x y H Q ⟨ι, av, η, d1, d2, d, t, r1, r2, e, k⟩ => by
  unfold dIsN at e
  split at e
  · cases e
    cases r2
    exact ⟨rfl, k _ H (by rw [isNon_rep r1]; exact .bl _) t (.refl _ _)⟩
  · cases e
theorem o_notN : OpR X (compareOp .IsNot) (rOp X.mg T dNotN) := OpR.imp op_notN fun x y H Q ⟨ι, av, η, d1, d2, d, t, r1, r2, e, k⟩ => by
  unfold dNotN at e
  split at e
  · cases e
    cases r2
    exact ⟨rfl, k _ H (by rw [isNon_rep r1]; exact .bl _) t (.refl _ _)⟩
  · cases e
theorem o_isB : OpR X (compareOp .Is) (rOp X.mg T dIsB) := OpR.imp op_isBl fun x y H Q ⟨ι, av, η, d1, d2, d, t, r1, r2, e, k⟩ => by
  unfold dIsB at e
  split at e
  · cases e
    cases r1
    cases r2
    exact ⟨_, _, rfl, rfl, k _ H (.bl _) t (.refl _ _)⟩
  · cases e
theorem o_notB : OpR X (compareOp .IsNot) (rOp X.mg T dNotB) := OpR.imp op_notBl fun x y H Q ⟨ι, av, η, d1, d2, d, t, r1, r2, e, k⟩ => by
  unfold dNotB at e
  split at e
  · cases e
    cases r1
    cases r2
    exact ⟨_, _, rfl, rfl, k _ H (.bl _) t (.refl _ _)⟩
  · cases e
end

/-! ### keys, dicts, in, subscripts -/
def keyOf : D → Option Key
  | .int i => some (.inl i)
  | .str x => some (.inr x)
  | _ => none
def keysOf : List D → Option (List Key)
  | [] => some []
  | x :: xs => match keyOf x, keysOf xs with
    | some k, some ks => some (k :: ks)
    | _, _ => none
section
variable {mg : Str → Option Value} {T : List (Addr × Str)} {ι av : List Addr} {H : Hp} {η : Store}
theorem keyOf_rep {v : V} {d : D} {k : Key} (r : Rep mg ι av H v d) (h : keyOf d = some k) : v = kV k := by
  cases r <;> simp [keyOf] at h <;> subst h <;> rfl
theorem keysOf_rep : ∀ {vs : List V} {ds : List D} {ks : List Key}, Reps mg ι av H vs ds → keysOf ds = some ks → vs = ks.map kV
  | _, _, ks, .nil, h => by cases h; rfl
  | _, _, ks, @Reps.cons _ _ _ _ v vs d ds r t, h => by
    rw [keysOf] at h
    cases h1 : keyOf d with
    | none => rw [h1] at h; cases h
    | some k =>
      cases h2 : keysOf ds with
      | none => rw [h1, h2] at h; cases h
      | some ks' =>
        rw [h1, h2] at h
        cases h
        rw [List.map_cons, keyOf_rep r h1, keysOf_rep t h2]
end
def tkeyOf : D → Option (List Key)
  | .tup ds => keysOf ds
  | _ => none
/-- a dict's value at a key -/
def look {κ : Type} [DecidableEq κ] (ks : List κ) (xs : List D) (k : κ) : Option D := ((ks.zip xs).find? fun p => decide (p.1 = k)).map (·.2)
/-- .. of any value, at any key: none if it is no dict or no key; some none if it isn't there -/
def dictAt (η : Store) (o k : D) : Option (Option D) := match o with
  | .dK ks xs => (keyOf k).map fun q => look ks xs q
  | .dT ks xs => (tkeyOf k).map fun q => look ks xs q
  | .ref i => match η[i]? with
    | some (.dK ks xs) => (keyOf k).map fun q => look ks xs q
    | some (.dT ks xs) => (tkeyOf k).map fun q => look ks xs q
    | _ => none
  | _ => none
section
variable {mg : Str → Option Value} {T : List (Addr × Str)} {ι av : List Addr} {H : Hp} {η : Store}
theorem look_rep {κ : Type} [DecidableEq κ] (k : κ) : ∀ {ks : List κ} {vs : List V} {ds : List D}, ks.length = vs.length → Reps mg ι av H vs ds →
    (∀ d, look ks ds k = some d → ∃ v, valV (ks.zip vs) k = some v ∧ Rep mg ι av H v d) ∧ (look ks ds k = none → valV (ks.zip vs) k = none)
  | [], _, _, _, _ => by simp [look, valV]
  | k0 :: ks, [], _, l, _ => by simp at l
  | k0 :: ks, v :: vs, _, l, .cons r t => by
    have ih := look_rep k (ks := ks) (by simpa using l) t
    unfold look valV at *
    simp only [List.zip_cons_cons, List.find?_cons]
    by_cases e : k0 = k
    · simp only [e, decide_true, Option.map_some]
      exact ⟨fun d h => ⟨v, rfl, by cases h; exact r⟩, fun h => by cases h⟩
    · simp only [e, decide_false]
      exact ih
theorem dictAt_rep {x y : V} {o k : D} {w : Option D} (t : StRep mg T ι av H η) (ro : Rep mg ι av H x o) (rk : Rep mg ι av H y k) (h : dictAt η o k = some w) :
    ∃ a z, x = .ref a ∧ DGet H a y z ∧ (∀ d, w = some d → ∃ v, z = some v ∧ Rep mg ι av H v d) ∧ (w = none → z = none) := by
  have kCase : ∀ {a : Addr} {ks : List Key} {vs : List V} {ds : List D}, Rd H a (.dK (ks.zip vs)) → ks.length = vs.length → Reps mg ι av H vs ds → ((keyOf k).map fun q => look ks ds q) = some w →
      ∃ z, DGet H a y z ∧ (∀ d, w = some d → ∃ v, z = some v ∧ Rep mg ι av H v d) ∧ (w = none → z = none) := by
    intro a ks vs ds e l q h
    obtain ⟨kk, h1, rfl⟩ := Option.map_eq_some_iff.mp h
    rw [keyOf_rep rk h1]
    have z := look_rep kk l q
    exact ⟨_, .inl ⟨_, _, e, rfl, rfl⟩, z.1, z.2⟩
  have tCase : ∀ {a : Addr} {ks : List (List Key)} {vs : List V} {ds : List D}, Rd H a (.dT (ks.zip vs)) → ks.length = vs.length → Reps mg ι av H vs ds → ((tkeyOf k).map fun q => look ks ds q) = some w →
      ∃ z, DGet H a y z ∧ (∀ d, w = some d → ∃ v, z = some v ∧ Rep mg ι av H v d) ∧ (w = none → z = none) := by
    intro a ks vs ds e l q h
    obtain ⟨kk, h1, rfl⟩ := Option.map_eq_some_iff.mp h
    cases rk with
    | tup eb _ _ qb =>
      rw [keysOf_rep qb h1] at eb
      have z := look_rep kk l q
      exact ⟨_, .inr ⟨_, _, _, e, rfl, eb, rfl⟩, z.1, z.2⟩
    | _ => cases h1
  cases ro with
  | dK e l n m q =>
    obtain ⟨z, h1⟩ := kCase e l q h
    exact ⟨_, z, rfl, h1⟩
  | dT e l n m q =>
    obtain ⟨z, h1⟩ := tCase e l q h
    exact ⟨_, z, rfl, h1⟩
  | ref e =>
    simp only [dictAt] at h
    obtain ⟨mm, h1, h2⟩ := t.has e
    rw [h1] at h
    cases h2 with
    | l e2 q => cases h
    | dK e2 l q =>
      obtain ⟨z, h1⟩ := kCase (.inl e2) l q h
      exact ⟨_, z, rfl, h1⟩
    | dT e2 l q =>
      obtain ⟨z, h1⟩ := tCase (.inl e2) l q h
      exact ⟨_, z, rfl, h1⟩
  | _ => cases h
end
/-- x in c -/
def dIn (η : Store) (x c : D) : Option D := match dictAt η c x with
  | some w => some (.bl w.isSome)
  | none => match toP η x, toP η c with
    | some p, some (.list qs) => if p.depth ≤ 64 then some (.bl (qs.any fun q => PyData.eqv q p)) else none
    | some p, some (.tuple qs) => if p.depth ≤ 64 then some (.bl (qs.any fun q => PyData.eqv q p)) else none
    | some (.str a), some (.str b) => some (.bl (!(Builtin.Str.occurrences b a 0 b.length 1).isEmpty))
    | _, _ => none
def dNotIn (η : Store) (x c : D) : Option D := match dictAt η c x with
  | some w => some (.bl (!w.isSome))
  | none => match toP η x, toP η c with
    | some p, some (.list qs) => if p.depth ≤ 64 then some (.bl (!qs.any fun q => PyData.eqv q p)) else none
    | some p, some (.tuple qs) => if p.depth ≤ 64 then some (.bl (!qs.any fun q => PyData.eqv q p)) else none
    | some (.str a), some (.str b) => some (.bl (!(!(Builtin.Str.occurrences b a 0 b.length 1).isEmpty)))
    | _, _ => none
theorem toP_str {mg : Str → Option Value} {ι av : List Addr} {H : Hp} {η : Store} {v : V} {d : D} {x : Str} (r : Rep mg ι av H v d) (h : toP η d = some (.str x)) : v = .str x := by
  cases r with
  | str z => cases h; rfl
  | tup _ _ _ _ =>
    simp only [toP, toP0] at h
    obtain ⟨ps, _, z⟩ := Option.map_eq_some_iff.mp h
    cases z
  | lst _ _ _ _ =>
    simp only [toP, toP0] at h
    obtain ⟨ps, _, z⟩ := Option.map_eq_some_iff.mp h
    cases z
  | ref _ =>
    simp only [toP] at h
    split at h
    · obtain ⟨ps, _, z⟩ := Option.map_eq_some_iff.mp h
      cases z
    · cases h
  | _ => cases h
section
variable {X : Cx} {T : List (Addr × Str)}
theorem o_in (hu : X.A.units + 70 < cLine) : OpR X (compareOp .In) (rOp X.mg T dIn) := by
  intro pins s σ H x y v u Q I rx ry ⟨ι, av, η, d1, d2, d, t, r1, r2, e, k⟩
  unfold dIn at e
  split at e
  · rename_i w hw
    cases e
    obtain ⟨a, z, rfl, g, h1, h2⟩ := dictAt_rep t r2 r1 hw
    obtain rfl : u = Value.ref a := ry
    have ez : z.isSome = w.isSome := by
      cases w with
      | none =>
        rw [h2 rfl]
        rfl
      | some d =>
        obtain ⟨v, ev, _⟩ := h1 d rfl
        rw [ev]
        rfl
    exact d_in (by omega) I g rx fun s' I' => ⟨.bl _, H, I', rfl, by rw [ez]; exact k _ H (.bl _) t (.refl _ _)⟩
  · split at e
    · rename_i p qs h1 h2
      split at e
      · rename_i hd
        cases e
        obtain ⟨as, q1⟩ := Dp.reads I _ x v (r1.dpη t h1) rx
        obtain ⟨bs, q2⟩ := Dp.reads I _ y u (r2.dpη t h2) ry
        have hp := toP_plain h2
        rw [PyData.plain] at hp
        exact SeqAt.in_list_data q2 q1 hp (toP_plain h1) (by omega) ⟨.bl _, H, I, rfl, k _ H (.bl _) t (.refl _ _)⟩
      · cases e
    · rename_i p qs h1 h2
      split at e
      · rename_i hd
        cases e
        obtain ⟨as, q1⟩ := Dp.reads I _ x v (r1.dpη t h1) rx
        obtain ⟨bs, q2⟩ := Dp.reads I _ y u (r2.dpη t h2) ry
        have hp := toP_plain h2
        rw [PyData.plain] at hp
        exact SeqAt.in_tuple_data q2 q1 hp (toP_plain h1) (by omega) ⟨.bl _, H, I, rfl, k _ H (.bl _) t (.refl _ _)⟩
      · cases e
    · rename_i a b h1 h2
      cases e
      exact op_in_str pins s σ H _ _ v u Q I rx ry ⟨_, _, toP_str r1 h1, toP_str r2 h2, k _ H (.bl _) t (.refl _ _)⟩
    · cases e
theorem o_notIn (hu : X.A.units + 70 < cLine) : OpR X (compareOp .NotIn) (rOp X.mg T dNotIn) := by
  intro pins s σ H x y v u Q I rx ry ⟨ι, av, η, d1, d2, d, t, r1, r2, e, k⟩
  unfold dNotIn at e
  split at e
  · rename_i w hw
    cases e
    obtain ⟨a, z, rfl, g, h1, h2⟩ := dictAt_rep t r2 r1 hw
    obtain rfl : u = Value.ref a := ry
    have ez : z.isSome = w.isSome := by
      cases w with
      | none =>
        rw [h2 rfl]
        rfl
      | some d =>
        obtain ⟨v, ev, _⟩ := h1 d rfl
        rw [ev]
        rfl
    exact d_notIn (by omega) I g rx fun s' I' => ⟨.bl _, H, I', rfl, by rw [ez]; exact k _ H (.bl _) t (.refl _ _)⟩
  · split at e
    · rename_i p qs h1 h2
      split at e
      · rename_i hd
        cases e
        obtain ⟨as, q1⟩ := Dp.reads I _ x v (r1.dpη t h1) rx
        obtain ⟨bs, q2⟩ := Dp.reads I _ y u (r2.dpη t h2) ry
        have hp := toP_plain h2
        rw [PyData.plain] at hp
        exact SeqAt.notIn_list_data q2 q1 hp (toP_plain h1) (by omega) ⟨.bl _, H, I, rfl, k _ H (.bl _) t (.refl _ _)⟩
      · cases e
    · rename_i p qs h1 h2
      split at e
      · rename_i hd
        cases e
        obtain ⟨as, q1⟩ := Dp.reads I _ x v (r1.dpη t h1) rx
        obtain ⟨bs, q2⟩ := Dp.reads I _ y u (r2.dpη t h2) ry
        have hp := toP_plain h2
        rw [PyData.plain] at hp
        exact SeqAt.notIn_tuple_data q2 q1 hp (toP_plain h1) (by omega) ⟨.bl _, H, I, rfl, k _ H (.bl _) t (.refl _ _)⟩
      · cases e
    · rename_i a b h1 h2
      cases e
      exact op_notIn_str pins s σ H _ _ v u Q I rx ry ⟨_, _, toP_str r1 h1, toP_str r2 h2, k _ H (.bl _) t (.refl _ _)⟩
    · cases e
end
/-- o[i] -/
def dIx (η : Store) (o i : D) : Option D := match dictAt η o i with
  | some w => w
  | none => match i with
    | .int n => match o with
      | .tup xs => atI xs n
      | .str z => if z.length ≤ sizeLine then (atI z.cps.toList n).map fun c => .str ⟨#[c]⟩ else none
      | .scr xs => (atI xs n).map .int
      | o => (lstOf η o).bind fun xs => atI xs n
    | _ => none
theorem atI_rep {mg : Str → Option Value} {ι av : List Addr} {H : Hp} {vs : List V} {ds : List D} {n : Int} {d : D} (r : Reps mg ι av H vs ds) (h : atI ds n = some d) : ∃ v, atI vs n = some v ∧ Rep mg ι av H v d := by
  unfold atI at *
  rw [r.length]
  obtain ⟨j, h1, h2⟩ := Option.bind_eq_some_iff.mp h
  rw [h1]
  exact r.get h2
theorem atI_map {α β : Type} {f : α → β} {xs : List α} {n : Int} {y : α} (h : atI xs n = some y) : atI (xs.map f) n = some (f y) := by
  unfold atI at *
  obtain ⟨j, h1, h2⟩ := Option.bind_eq_some_iff.mp h
  rw [List.length_map, h1]
  show (xs.map f)[j]? = some (f y)
  rw [List.getElem?_map, h2]
  rfl
section
variable {X : Cx} {T : List (Addr × Str)}
theorem o_ix (hu : X.A.units + 70 < cLine) : IxR X (rOp X.mg T dIx) := by
  intro value slice pins s σ H x y v u Q I rx ry ⟨ι, av, η, d1, d2, d, t, r1, r2, e, k⟩ hs
  unfold dIx at e
  split at e
  · rename_i w hw
    subst e
    obtain ⟨a, z, rfl, g, h1, h2⟩ := dictAt_rep t r1 r2 hw
    obtain rfl : v = Value.ref a := rx
    obtain ⟨v', rfl, rv⟩ := h1 d rfl
    exact tail_any (dict_typeIs I g) PySem.F.slot_dict_getitem.lookup (d_getItem (by omega) I g ry fun w' s' I' rw' => ⟨v', H, I', rw', k _ H rv t (.refl _ _)⟩) hs
  · split at e
    · cases r2
      split at e
      · cases r1 with
        | tup e1 n1 m1 q1 =>
          obtain ⟨v', h1, h2⟩ := atI_rep q1 e
          exact ix_tup value slice pins s σ H _ _ v u Q I rx ry ⟨_, _, _, _, rfl, rfl, SqT.of e1, h1, k _ H h2 t (.refl _ _)⟩ hs
      · split at e
        · rename_i hz
          obtain ⟨c, h1, rfl⟩ := Option.map_eq_some_iff.mp e
          cases r1
          exact ix_str value slice pins s σ H _ _ v u Q I rx ry ⟨_, _, _, rfl, rfl, hz, h1, k _ H (.str _) t (.refl _ _)⟩ hs
        · cases e
      · obtain ⟨c, h1, rfl⟩ := Option.map_eq_some_iff.mp e
        cases r1 with
        | scr e1 n1 m1 => exact ix_list value slice pins s σ H _ _ v u Q I rx ry ⟨_, _, _, _, rfl, rfl, .inl (.inr ⟨_, e1⟩), atI_map (f := V.int) h1, k _ H (.int _) t (.refl _ _)⟩ hs
      · obtain ⟨xs, h1, h2⟩ := Option.bind_eq_some_iff.mp e
        obtain ⟨a, vs, rfl, e1, q1⟩ := lstOf_rep t r1 h1
        obtain ⟨v', h3, h4⟩ := atI_rep q1 h2
        exact ix_list value slice pins s σ H _ _ v u Q I rx ry ⟨_, _, _, _, rfl, rfl, SqL.of e1, h3, k _ H h4 t (.refl _ _)⟩ hs
    · cases e
variable {E : XK}
theorem d_ix {a b : Expr} {pos : Pos} {f g : FE} (hu : X.A.units + 70 < cLine) (ha : PE X a (tE X.mg T E f)) (hb : PE X b (tE X.mg T E g)) (hs : PlainIx b := by intro _ _; rfl) : PE X (.Subscript a b pos) (tE X.mg T E (f2 dIx f g)) :=
  PE.imp (pe_ix (o_ix hu) ha hb hs) fun _ _ _ h => f2_reads h
end
end Dn
set_option Elab.async false
set_option linter.all false
set_option maxRecDepth 100000
/-! Dn, 4: least and greatest of tuples and of arguments. -/
namespace Dn
open PySem PySem.Spec PyProof.Rows L2
section
variable {prog : Program} {w : World} {A : Around} {E : Value → Shared → Prop} {s : Shared}
/-- the ints at hand, in the form that the walks take -/
theorem ints_at {its : List Value} {ns : List Int} (hi : IntsAre its ns) : ∃ xs : Array (Int × Tok), its.toArray = intItems xs ∧ xs.toList.map (·.1) = ns := by
  obtain ⟨xs, e⟩ := hi.allInts.items
  have hn : numsOf (intItems xs).toList = ns := by rw [← e]; exact hi.numsOf
  rw [nums_intItems] at hn
  exact ⟨xs, e, hn⟩
theorem kept_two {h₁ h' : Heap} {o : Obj} {L : Addr} (hk : ∀ b u, b ∉ [L] → h₁.get? b = some u → h'.get? b = some u) (hL : s.heap.objs.size ≤ L) (k : ∀ b u, s.heap.get? b = some u → h₁.get? b = some u) : ∀ b u, s.heap.get? b = some u → h'.get? b = some u := fun b u e =>
  hk b u (fun hm => absurd (Nat.lt_of_lt_of_le (Heap.lt_size e) hL) (by rw [List.mem_singleton.mp hm]; exact Nat.lt_irrefl _)) (k b u e)
theorem max_walked {xs : Array (Int × Tok)} {v : Value} (hne : 0 < xs.size) (hP : (intItems xs)[argBest (fun i j => decide (numAt xs i > numAt xs j)) (xs.size - 1)]? = some v) :
    ∃ M t, v = .int M t ∧ M ∈ xs.toList.map (·.1) ∧ ∀ a, a ∈ xs.toList.map (·.1) → a ≤ M := by
  obtain ⟨t, rfl⟩ := intItems_at hP
  obtain ⟨h1, h2⟩ := argBest_gt (numAt xs) (xs.size - 1)
  refine ⟨_, t, rfl, ?_, fun a ha => ?_⟩
  · rw [numAt_eq]
    exact PySem.getD_mem (by rw [List.length_map, Array.length_toList]; omega)
  · obtain ⟨j, hj, rfl⟩ := mem_getD ha
    rw [List.length_map, Array.length_toList] at hj
    rw [← numAt_eq]
    exact h2 j (by omega)
theorem min_walked {xs : Array (Int × Tok)} {v : Value} (hne : 0 < xs.size) (hP : (intItems xs)[argBest (fun i j => decide (numAt xs i < numAt xs j)) (xs.size - 1)]? = some v) :
    ∃ M t, v = .int M t ∧ M ∈ xs.toList.map (·.1) ∧ ∀ a, a ∈ xs.toList.map (·.1) → M ≤ a := by
  obtain ⟨t, rfl⟩ := intItems_at hP
  obtain ⟨h1, h2⟩ := argBest_lt (numAt xs) (xs.size - 1)
  refine ⟨_, t, rfl, ?_, fun a ha => ?_⟩
  · rw [numAt_eq]
    exact PySem.getD_mem (by rw [List.length_map, Array.length_toList]; omega)
  · obtain ⟨j, hj, rfl⟩ := mem_getD ha
    rw [List.length_map, Array.length_toList] at hj
    rw [← numAt_eq]
    exact h2 j (by omega)
/-- a tuple's iterator, walked -/
theorem tup_walk {l : Addr} {xs : Array (Int × Tok)} (hh : A.handled = none) (hl : s.heap.IsTuple l (intItems xs)) {Q : Value → Shared → Prop} {op : CmpOp}
    (best : (Nat → Nat → Bool)) (hc : CmpOf prog w A.in1 op (fun i v => (intItems xs)[i]? = some v) best) (hne : 0 < xs.size)
    (h : ∀ v h' tk, (intItems xs)[argBest best (xs.size - 1)]? = some v → (∀ b o, s.heap.get? b = some o → h'.get? b = some o) → Q v { s with heap := h', toks := tk }) :
    wpAny (model prog w) A.in1 (pyIter (.ref l)) (fun it s₂ => ∃ I fp wr n P St bt, it = .ref I ∧ Walks prog w A.in1 I fp wr n P St ∧ St 0 s₂.heap ∧ (∀ b ∈ fp, b < s₂.heap.objs.size) ∧ 0 < n ∧ CmpOf prog w A.in1 op P bt ∧
      ∀ v h' tk, P (argBest bt (n - 1)) v → (∀ b o, b ∉ wr → s₂.heap.get? b = some o → h'.get? b = some o) → Q v { s₂ with heap := h', toks := tk }) E s := by
  refine wpAny_pyIter_tuple hl ?_
  have hne' : l ≠ s.heap.objs.size := by
    obtain ⟨o, e, _⟩ := hl
    exact Nat.ne_of_lt (Heap.lt_size e)
  refine ⟨_, [_, l], [_], _, _, _, best, rfl, Walks.tuple (A := A.in1) hh _ l (Ne.symm hne').symm (intItems xs), ⟨⟨_, Heap.get?_push_size _ rfl, rfl, rfl⟩, hl.push _⟩, fun d hd => ?_, by simpa [intItems] using hne, hc, fun v h' tk hP hk => ?_⟩
  · rw [Heap.size_push]
    rcases List.mem_cons.mp hd with rfl | hd
    · exact Nat.lt_succ_self _
    · rw [List.mem_singleton.mp hd]
      obtain ⟨o, e, _⟩ := hl
      exact Nat.lt_succ_of_lt (Heap.lt_size e)
  · refine h v h' tk (by simpa [intItems] using hP) fun b o e => hk b o (fun hm => ?_) (Heap.get?_push_of_some _ e)
    rw [List.mem_singleton.mp hm] at e
    exact absurd (Heap.lt_size e) (Nat.lt_irrefl _)
theorem max_tup {l : Addr} {its : List Value} {ns : List Int} {Q : Value → Shared → Prop} (hh : A.handled = none) (hl : s.heap.IsTuple l its.toArray) (hi : IntsAre its ns) (hne : 0 < ns.length)
    (h : ∀ h' tk M t', (∀ b o, s.heap.get? b = some o → h'.get? b = some o) → M ∈ ns → (∀ a, a ∈ ns → a ≤ M) → Q (.int M t') { s with heap := h', toks := tk }) : wpAny (model prog w) A (call (.builtin "max") [.ref l]) Q E s := by
  obtain ⟨xs, e, hn⟩ := ints_at hi
  rw [e] at hl
  subst hn
  have hsz : 0 < xs.size := by simpa using hne
  refine call_max_walk (tup_walk hh hl _ (CmpOf.ints_gt (numAt xs) (fun _ _ => intItems_at)) hsz fun v h' tk hv hk => ?_)
  obtain ⟨M, t, rfl, h1, h2⟩ := max_walked hsz hv
  exact h h' tk M t hk h1 h2
theorem min_tup {l : Addr} {its : List Value} {ns : List Int} {Q : Value → Shared → Prop} (hh : A.handled = none) (hl : s.heap.IsTuple l its.toArray) (hi : IntsAre its ns) (hne : 0 < ns.length)
    (h : ∀ h' tk M t', (∀ b o, s.heap.get? b = some o → h'.get? b = some o) → M ∈ ns → (∀ a, a ∈ ns → M ≤ a) → Q (.int M t') { s with heap := h', toks := tk }) : wpAny (model prog w) A (call (.builtin "min") [.ref l]) Q E s := by
  obtain ⟨xs, e, hn⟩ := ints_at hi
  rw [e] at hl
  subst hn
  have hsz : 0 < xs.size := by simpa using hne
  refine call_min_walk (tup_walk hh hl _ (CmpOf.ints_lt (numAt xs) (fun _ _ => intItems_at)) hsz fun v h' tk hv hk => ?_)
  obtain ⟨M, t, rfl, h1, h2⟩ := min_walked hsz hv
  exact h h' tk M t hk h1 h2

/-! ### of three and four arguments -/
theorem args_max4 (a b c d : Value) : argsOk "max" ⟨[a, b, c, d], []⟩ := by unfold argsOk; kernel_rfl
theorem args_min4 (a b c d : Value) : argsOk "min" ⟨[a, b, c, d], []⟩ := by unfold argsOk; kernel_rfl
theorem max_args {a b : Value} {r : List Value} {xs : Array (Int × Tok)} {Q : Value → Shared → Prop} (hh : A.handled = none) (ha : argsOk "max" ⟨a :: b :: r, []⟩) (hx : (a :: b :: r).toArray = intItems xs) (hz : (a :: b :: r).length ≤ sizeLine)
    (h : ∀ h' tk M t', (∀ b o, s.heap.get? b = some o → h'.get? b = some o) → M ∈ xs.toList.map (·.1) → (∀ y, y ∈ xs.toList.map (·.1) → y ≤ M) → Q (.int M t') { s with heap := h', toks := tk }) :
    wpAny (model prog w) A (call (.builtin "max") (a :: b :: r)) Q E s := by
  have hname : (toString "max" ++ toString ".loop" : String) = "max.loop" := by decide
  have hsz : 0 < xs.size := by
    have e := congrArg Array.size hx
    simp [intItems] at e
    omega
  refine call_function_tree F.kind_max F.plain_max F.entry_max ha ?_
  show wpAny _ A.in1 (Builtin.Builtins.bindParams "max" ["key", "default"] 0 ⟨[], []⟩ >>= _) _ _ s
  refine wpAny_bind (wpAny_of_eq (show Builtin.Builtins.bindParams "max" ["key", "default"] 0 ⟨[], []⟩ = pure [none, none] from rfl) ?_)
  show wpAny _ A.in1 (newTuple (a :: b :: r) >>= _) _ _ s
  refine wpAny_bind (wpAny_newObj_type ?_ hz)
  have hT : (s.heap.push { cls := .type "tuple", data := .seq (a :: b :: r).toArray }).IsTuple s.heap.objs.size (intItems xs) := ⟨_, Heap.get?_push_size _ rfl, rfl, 0, by rw [hx]⟩
  refine wpAny_bind (wpAny_mono (tup_walk (s := { s with heap := s.heap.push { cls := .type "tuple", data := .seq (a :: b :: r).toArray } }) hh hT _ (CmpOf.ints_gt (numAt xs) (fun _ _ => intItems_at)) hsz (Q := fun v s' => Q v s') fun v h' tk hv hk => ?_) (fun it s₂ h₂ => ?_) fun _ _ e => e)
  · obtain ⟨M, t, rfl, h1, h2⟩ := max_walked hsz hv
    exact h h' tk M t (fun c o e => hk c o (Heap.get?_push_of_some _ e)) h1 h2
  · obtain ⟨I, fp, wr, n, P, St, bt, rfl, W, hst, hfp, hn, hcmp, hQ⟩ := h₂
    refine wpAny_bind (wpAny_newObj_type ?_)
    have hSf : s₂.heap.objs.size ∉ fp := fun hm => Nat.lt_irrefl _ (hfp _ hm)
    rw [hname]
    refine wpAny_pure ⟨plainId_quiet F.plain_max_loop _, codeAny_max_loop_first W bt hcmp s₂.heap.objs.size hSf hn (W.frame _ _ _ hst fun b _ o e => Heap.get?_push_of_some _ e) (Heap.get?_push_size _ rfl) fun v h' tk hP hk => ?_⟩
    exact hQ v h' tk hP fun b o hbw e => hk b o hbw (Nat.ne_of_lt (Heap.lt_size e)) (Heap.get?_push_of_some _ e)
theorem min_args {a b : Value} {r : List Value} {xs : Array (Int × Tok)} {Q : Value → Shared → Prop} (hh : A.handled = none) (ha : argsOk "min" ⟨a :: b :: r, []⟩) (hx : (a :: b :: r).toArray = intItems xs) (hz : (a :: b :: r).length ≤ sizeLine)
    (h : ∀ h' tk M t', (∀ b o, s.heap.get? b = some o → h'.get? b = some o) → M ∈ xs.toList.map (·.1) → (∀ y, y ∈ xs.toList.map (·.1) → M ≤ y) → Q (.int M t') { s with heap := h', toks := tk }) :
    wpAny (model prog w) A (call (.builtin "min") (a :: b :: r)) Q E s := by
  have hname : (toString "min" ++ toString ".loop" : String) = "min.loop" := by decide
  have hsz : 0 < xs.size := by
    have e := congrArg Array.size hx
    simp [intItems] at e
    omega
  refine call_function_tree F.kind_min F.plain_min F.entry_min ha ?_
  show wpAny _ A.in1 (Builtin.Builtins.bindParams "min" ["key", "default"] 0 ⟨[], []⟩ >>= _) _ _ s
  refine wpAny_bind (wpAny_of_eq (show Builtin.Builtins.bindParams "min" ["key", "default"] 0 ⟨[], []⟩ = pure [none, none] from rfl) ?_)
  show wpAny _ A.in1 (newTuple (a :: b :: r) >>= _) _ _ s
  refine wpAny_bind (wpAny_newObj_type ?_ hz)
  have hT : (s.heap.push { cls := .type "tuple", data := .seq (a :: b :: r).toArray }).IsTuple s.heap.objs.size (intItems xs) := ⟨_, Heap.get?_push_size _ rfl, rfl, 0, by rw [hx]⟩
  refine wpAny_bind (wpAny_mono (tup_walk (s := { s with heap := s.heap.push { cls := .type "tuple", data := .seq (a :: b :: r).toArray } }) hh hT _ (CmpOf.ints_lt (numAt xs) (fun _ _ => intItems_at)) hsz (Q := fun v s' => Q v s') fun v h' tk hv hk => ?_) (fun it s₂ h₂ => ?_) fun _ _ e => e)
  · obtain ⟨M, t, rfl, h1, h2⟩ := min_walked hsz hv
    exact h h' tk M t (fun c o e => hk c o (Heap.get?_push_of_some _ e)) h1 h2
  · obtain ⟨I, fp, wr, n, P, St, bt, rfl, W, hst, hfp, hn, hcmp, hQ⟩ := h₂
    refine wpAny_bind (wpAny_newObj_type ?_)
    have hSf : s₂.heap.objs.size ∉ fp := fun hm => Nat.lt_irrefl _ (hfp _ hm)
    rw [hname]
    refine wpAny_pure ⟨plainId_quiet F.plain_min_loop _, codeAny_min_loop_first W bt hcmp s₂.heap.objs.size hSf hn (W.frame _ _ _ hst fun b _ o e => Heap.get?_push_of_some _ e) (Heap.get?_push_size _ rfl) fun v h' tk hP hk => ?_⟩
    exact hQ v h' tk hP fun b o hbw e => hk b o hbw (Nat.ne_of_lt (Heap.lt_size e)) (Heap.get?_push_of_some _ e)
end
end Dn
set_option Elab.async false
set_option linter.all false
set_option maxRecDepth 100000
/-! Dn, 5: built-in functions by values. -/
namespace Dn
open PySem PySem.Spec PyProof.Rows L2

/-- a call with values -/
def rCl (mg : Str → Option Value) (T : List (Addr × Str)) (op : Store → List D → Option D) : List V → Hp → VK → Prop := fun vs H Q => ∃ (ι av : List Addr) (η : Store) (ds : List D) (d : D), StRep mg T ι av H η ∧ Reps mg ι av H vs ds ∧ op η ds = some d ∧
  ∀ (v : V) (H' : Hp), Rep mg ι av H' v d → StRep mg T ι av H' η → Ext ι H ι H' → Q v H'
def fCl (op : Store → List D → Option D) (g : FA) : FE := fun ρ η => (g ρ η).bind fun ds η1 => R.of η1 (op η1 ds)
section
variable {X : Cx} {T : List (Addr × Str)} {E : XK}
theorem fCl_reads {mg : Str → Option Value} {op : Store → List D → Option D} {g : FA} {σ : L2.St} {H : Hp} {Q : VK} (h : tE mg T E (fCl op g) σ H Q) : tA mg T E g σ H fun vs H1 => rCl mg T op vs H1 Q := by
  obtain ⟨ρ, η, ι, av, s, t, h⟩ := h
  refine bindG s t h fun vs ds η₁ ι₁ H₁ e r t1 x1 s1 h1 => ?_
  cases eo : op η₁ ds with
  | none => rw [eo] at h1; exact h1.elim
  | some z =>
    rw [eo] at h1
    exact ⟨ι₁, av, η₁, ds, z, t1, r, eo, fun u H' r3 t3 x3 => h1 u H' ι₁ r3 t3 x3⟩
theorem d_callB {x : Str} {p pos : Pos} {e : Expr} {es : List Expr} {id : String} {op : Store → List D → Option D} {g : FA} (hc : CallR X (.builtin id) (rCl X.mg T op)) (hg : Gl X x) (hm : X.mg x = none) (hv : bootBuiltins x = some (.builtin id)) (ha : PA X (e :: es) (tA X.mg T E g)) (hn : x ≠ "__name__" := by decide)
    (hdb : (x == ("__debug__" : Str)) = false := by decide) (he : starEach (e :: es) X.env = (false, eval e X.env) :: starEach es X.env := by rfl) (hpl : (backTo pos (starEach es X.env)).any (·.1) = false := by rfl) : PE X (.Call (.Name x p) (e :: es) [] pos) (tE X.mg T E (fCl op g)) :=
  PE.imp (pe_callB hc hg hm hv ha hn hdb he hpl) fun _ _ _ h => fCl_reads h
theorem d_callTy {x : Str} {p pos : Pos} {e : Expr} {es : List Expr} {id : String} {op : Store → List D → Option D} {g : FA} (hc : CallR X (.type id) (rCl X.mg T op)) (hg : Gl X x) (hm : X.mg x = none) (hv : bootBuiltins x = some (.type id)) (ha : PA X (e :: es) (tA X.mg T E g)) (hn : x ≠ "__name__" := by decide)
    (hdb : (x == ("__debug__" : Str)) = false := by decide) (he : starEach (e :: es) X.env = (false, eval e X.env) :: starEach es X.env := by rfl) (hpl : (backTo pos (starEach es X.env)).any (·.1) = false := by rfl) : PE X (.Call (.Name x p) (e :: es) [] pos) (tE X.mg T E (fCl op g)) :=
  PE.imp (pe_callTy hc hg hm hv ha hn hdb he hpl) fun _ _ _ h => fCl_reads h
theorem CallR.imp {f : Value} {r r' : List V → Hp → VK → Prop} (h : CallR X f r) (k : ∀ vs H Q, r' vs H Q → r vs H Q) : CallR X f r' := fun pins s σ H xs us Q I rx w => h pins s σ H xs us Q I rx (k xs H Q w)
end
section
variable {mg : Str → Option Value} {ι av : List Addr} {H : Hp}
theorem Reps.one {vs : List V} {d : D} (r : Reps mg ι av H vs [d]) : ∃ v, vs = [v] ∧ Rep mg ι av H v d := by
  cases r with
  | cons r t => cases t; exact ⟨_, rfl, r⟩
theorem Reps.two {vs : List V} {d e : D} (r : Reps mg ι av H vs [d, e]) : ∃ v u, vs = [v, u] ∧ Rep mg ι av H v d ∧ Rep mg ι av H u e := by
  cases r with
  | cons r t =>
    obtain ⟨u, rfl, q⟩ := t.one
    exact ⟨_, u, rfl, r, q⟩
end
/-! ### len, abs, int, str, sums -/
def dLen (η : Store) (ds : List D) : Option D := match ds with
  | [.str x] => if x.length ≤ sizeLine then some (.int x.length) else none
  | [.tup xs] => some (.int xs.length)
  | [.scr xs] => some (.int xs.length)
  | [.dK ks xs] => some (.int (ks.zip xs).length)
  | [d] => (lstOf η d).map fun xs => .int xs.length
  | _ => none
def dAbs (_ : Store) (ds : List D) : Option D := match ds with
  | [.int i] => some (.int (if i < 0 then -i else i))
  | _ => none
def dInt (_ : Store) (ds : List D) : Option D := match ds with
  | [.int i] => some (.int i)
  | [.bl b] => some (.int (if b then 1 else 0))
  | _ => none
def dStr (_ : Store) (ds : List D) : Option D := match ds with
  | [.int i] => if i.natAbs.log2 < 1920 then some (.str (toString i)) else none
  | _ => none
def unI : D → Option Int
  | .int i => some i
  | _ => none
/-- all of one kind -/
def unAll {α : Type} (f : D → Option α) : List D → Option (List α)
  | [] => some []
  | d :: ds => match f d, unAll f ds with
    | some a, some r => some (a :: r)
    | _, _ => none
def seqOf (η : Store) : D → Option (List D)
  | .tup xs => some xs
  | d => lstOf η d
def dSum (η : Store) (ds : List D) : Option D := match ds with
  | [d] => ((lstOf η d).bind (unAll unI)).map fun ns => .int ns.sum
  | _ => none
def dAll (η : Store) (ds : List D) : Option D := match ds with
  | [d] => ((lstOf η d).bind (unAll unB)).map fun bs => .bl (bs.all id)
  | _ => none
def dAny (η : Store) (ds : List D) : Option D := match ds with
  | [d] => ((lstOf η d).bind (unAll unB)).map fun bs => .bl (bs.any id)
  | _ => none
/-- the greatest, the least -/
def maxI : List Int → Option Int
  | [] => none
  | x :: xs => some (xs.foldl max x)
def minI : List Int → Option Int
  | [] => none
  | x :: xs => some (xs.foldl min x)
theorem foldl_max : ∀ (xs : List Int) (x : Int), (xs.foldl max x = x ∨ xs.foldl max x ∈ xs) ∧ x ≤ xs.foldl max x ∧ ∀ y ∈ xs, y ≤ xs.foldl max x
  | [], x => ⟨.inl rfl, Int.le_refl _, fun _ h => nomatch h⟩
  | z :: xs, x => by
    obtain ⟨h1, h2, h3⟩ := foldl_max xs (max x z)
    rw [List.foldl_cons]
    refine ⟨?_, by omega, fun y hy => ?_⟩
    · rcases h1 with e | e
      · rw [e]
        rcases Int.le_total x z with q | q
        · rw [Int.max_eq_right q]
          exact .inr List.mem_cons_self
        · rw [Int.max_eq_left q]
          exact .inl rfl
      · exact .inr (List.mem_cons_of_mem _ e)
    · rcases List.mem_cons.mp hy with rfl | hy
      · omega
      · exact h3 y hy
theorem foldl_min : ∀ (xs : List Int) (x : Int), (xs.foldl min x = x ∨ xs.foldl min x ∈ xs) ∧ xs.foldl min x ≤ x ∧ ∀ y ∈ xs, xs.foldl min x ≤ y
  | [], x => ⟨.inl rfl, Int.le_refl _, fun _ h => nomatch h⟩
  | z :: xs, x => by
    obtain ⟨h1, h2, h3⟩ := foldl_min xs (min x z)
    rw [List.foldl_cons]
    refine ⟨?_, by omega, fun y hy => ?_⟩
    · rcases h1 with e | e
      · rw [e]
        rcases Int.le_total x z with q | q
        · rw [Int.min_eq_left q]
          exact .inl rfl
        · rw [Int.min_eq_right q]
          exact .inr List.mem_cons_self
      · exact .inr (List.mem_cons_of_mem _ e)
    · rcases List.mem_cons.mp hy with rfl | hy
      · omega
      · exact h3 y hy
theorem maxI_mem {xs : List Int} {m : Int} (h : maxI xs = some m) : m ∈ xs ∧ ∀ y ∈ xs, y ≤ m := by
  cases xs with
  | nil => cases h
  | cons x xs =>
    cases h
    obtain ⟨h1, h2, h3⟩ := foldl_max xs x
    refine ⟨?_, fun y hy => ?_⟩
    · rcases h1 with e | e
      · rw [e]; exact List.mem_cons_self
      · exact List.mem_cons_of_mem _ e
    · rcases List.mem_cons.mp hy with rfl | hy
      · exact h2
      · exact h3 y hy
theorem minI_mem {xs : List Int} {m : Int} (h : minI xs = some m) : m ∈ xs ∧ ∀ y ∈ xs, m ≤ y := by
  cases xs with
  | nil => cases h
  | cons x xs =>
    cases h
    obtain ⟨h1, h2, h3⟩ := foldl_min xs x
    refine ⟨?_, fun y hy => ?_⟩
    · rcases h1 with e | e
      · rw [e]; exact List.mem_cons_self
      · exact List.mem_cons_of_mem _ e
    · rcases List.mem_cons.mp hy with rfl | hy
      · exact h2
      · exact h3 y hy
theorem maxI_of {xs : List Int} {m : Int} (h1 : m ∈ xs) (h2 : ∀ y ∈ xs, y ≤ m) : maxI xs = some m := by
  cases e : maxI xs with
  | none =>
    cases xs with
    | nil => cases h1
    | cons x xs => cases e
  | some k =>
    obtain ⟨q1, q2⟩ := maxI_mem e
    have a := h2 k q1
    have b := q2 m h1
    rw [show k = m by omega]
theorem minI_of {xs : List Int} {m : Int} (h1 : m ∈ xs) (h2 : ∀ y ∈ xs, m ≤ y) : minI xs = some m := by
  cases e : minI xs with
  | none =>
    cases xs with
    | nil => cases h1
    | cons x xs => cases e
  | some k =>
    obtain ⟨q1, q2⟩ := minI_mem e
    have a := h2 k q1
    have b := q2 m h1
    rw [show k = m by omega]
def dMax (η : Store) (ds : List D) : Option D := match ds with
  | [d] => (((seqOf η d).bind (unAll unI)).bind maxI).map .int
  | ds => if 2 ≤ ds.length ∧ ds.length ≤ 4 then ((unAll unI ds).bind maxI).map .int else none
def dMin (η : Store) (ds : List D) : Option D := match ds with
  | [d] => (((seqOf η d).bind (unAll unI)).bind minI).map .int
  | ds => if 2 ≤ ds.length ∧ ds.length ≤ 4 then ((unAll unI ds).bind minI).map .int else none
def dTuple (η : Store) (ds : List D) : Option D := match ds with
  | [.tup xs] => some (.tup xs)
  | [d] => (lstOf η d).map .tup
  | _ => none
def dList (η : Store) (ds : List D) : Option D := match ds with
  | [.scr xs] => some (.lst (xs.map .int))
  | [d] => (seqOf η d).map .lst
  | _ => none
section
variable {mg : Str → Option Value} {T : List (Addr × Str)} {ι av : List Addr} {H : Hp} {η : Store}
theorem unAll_ints : ∀ {vs : List V} {ds : List D} {ns : List Int}, Reps mg ι av H vs ds → unAll unI ds = some ns → vs = ns.map V.int
  | _, _, _, .nil, h => by cases h; rfl
  | _, _, ns, @Reps.cons _ _ _ _ v vs d ds r t, h => by
    rw [unAll] at h
    cases h1 : unI d with
    | none => rw [h1] at h; cases h
    | some n =>
      cases h2 : unAll unI ds with
      | none => rw [h1, h2] at h; cases h
      | some ms =>
        rw [h1, h2] at h
        cases h
        cases d <;> simp [unI] at h1
        subst h1
        cases r
        rw [List.map_cons, unAll_ints t h2]
theorem unAll_bls : ∀ {vs : List V} {ds : List D} {ns : List Bool}, Reps mg ι av H vs ds → unAll unB ds = some ns → vs = ns.map V.bl
  | _, _, _, .nil, h => by cases h; rfl
  | _, _, ns, @Reps.cons _ _ _ _ v vs d ds r t, h => by
    rw [unAll] at h
    cases h1 : unB d with
    | none => rw [h1] at h; cases h
    | some n =>
      cases h2 : unAll unB ds with
      | none => rw [h1, h2] at h; cases h
      | some ms =>
        rw [h1, h2] at h
        cases h
        obtain rfl := unB_some h1
        cases r
        rw [List.map_cons, unAll_bls t h2]
theorem seqOf_rep {v : V} {d : D} {xs : List D} (t : StRep mg T ι av H η) (r : Rep mg ι av H v d) (h : seqOf η d = some xs) : ∃ a vs, v = .ref a ∧ (H a = some (.lst vs) ∨ H a = some (.tup vs)) ∧ Reps mg ι av H vs xs := by
  cases d with
  | tup ys =>
    cases h
    cases r with
    | tup e _ _ q => exact ⟨_, _, rfl, .inr e, q⟩
  | _ =>
    obtain ⟨a, vs, e1, e2, q⟩ := lstOf_rep t r h
    exact ⟨a, vs, e1, .inl e2, q⟩
end
section
variable {X : Cx} {T : List (Addr × Str)} {E : XK}
theorem c_len : CallR X (.builtin "len") (rCl X.mg T dLen) := by
  intro pins s σ H xs us Q I r ⟨ι, av, η, ds, d, t, q, e, k⟩
  unfold dLen at e
  split at e
  · split at e
    · rename_i hz
      cases e
      obtain ⟨v, rfl, rv⟩ := q.one
      cases rv
      exact call_len_str pins s σ H _ us Q I r ⟨_, rfl, hz, k _ H (.int _) t (.refl _ _)⟩
    · cases e
  · cases e
    obtain ⟨v, rfl, rv⟩ := q.one
    cases rv with
    | tup e1 _ _ q1 =>
      exact call_len_seq pins s σ H _ us Q I r ⟨_, _, rfl, .inr (SqT.of e1), by rw [q1.length]; exact k _ H (.int _) t (.refl _ _)⟩
  · cases e
    obtain ⟨v, rfl, rv⟩ := q.one
    cases rv with
    | scr e1 _ _ =>
      refine call_len_seq pins s σ H _ us Q I r ⟨_, _, rfl, .inl (.inl (.inr ⟨_, e1⟩)), ?_⟩
      rw [List.length_map]
      exact k _ H (.int _) t (.refl _ _)
  · cases e
    obtain ⟨v, rfl, rv⟩ := q.one
    cases rv with
    | dK e1 l _ _ q1 =>
      obtain ⟨u, rfl, ru⟩ := vals1 r
      cases ru
      exact d_len I e1 fun tk s' I' => ⟨.int _, H, I', ⟨tk, rfl⟩, by rw [List.length_zip, q1.length, ← List.length_zip]; exact k _ H (.int _) t (.refl _ _)⟩
  · obtain ⟨zs, h1, rfl⟩ := Option.map_eq_some_iff.mp e
    obtain ⟨v, rfl, rv⟩ := q.one
    obtain ⟨a, vs, rfl, e1, q1⟩ := lstOf_rep t rv h1
    exact call_len_seq pins s σ H _ us Q I r ⟨_, _, rfl, .inl (SqL.of e1), by rw [q1.length]; exact k _ H (.int _) t (.refl _ _)⟩
  · cases e
theorem c_abs : CallR X (.builtin "abs") (rCl X.mg T dAbs) := CallR.imp call_abs fun vs H Q ⟨ι, av, η, ds, d, t, q, e, k⟩ => by
  unfold dAbs at e
  split at e
  · cases e
    obtain ⟨v, rfl, rv⟩ := q.one
    cases rv
    exact ⟨_, rfl, k _ H (.int _) t (.refl _ _)⟩
  · cases e
theorem c_int : CallR X (.type "int") (rCl X.mg T dInt) := CallR.imp call_int1 fun vs H Q ⟨ι, av, η, ds, d, t, q, e, k⟩ => by
  unfold dInt at e
  split at e
  · cases e
    obtain ⟨v, rfl, rv⟩ := q.one
    cases rv
    exact .inl ⟨_, rfl, k _ H (.int _) t (.refl _ _)⟩
  · cases e
    obtain ⟨v, rfl, rv⟩ := q.one
    cases rv
    exact .inr ⟨_, rfl, k _ H (.int _) t (.refl _ _)⟩
  · cases e
theorem c_str : CallR X (.type "str") (rCl X.mg T dStr) := CallR.imp call_str_int fun vs H Q ⟨ι, av, η, ds, d, t, q, e, k⟩ => by
  unfold dStr at e
  split at e
  · split at e
    · rename_i hz
      cases e
      obtain ⟨v, rfl, rv⟩ := q.one
      cases rv
      exact ⟨_, rfl, hz, k _ H (.str _) t (.refl _ _)⟩
    · cases e
  · cases e
theorem c_sum (hc : X.calm = true) : CallR X (.builtin "sum") (rCl X.mg T dSum) := CallR.imp (cr_sum hc) fun vs H Q ⟨ι, av, η, ds, d, t, q, e, k⟩ => by
  unfold dSum at e
  split at e
  · obtain ⟨ns, h1, rfl⟩ := Option.map_eq_some_iff.mp e
    obtain ⟨zs, h2, h3⟩ := Option.bind_eq_some_iff.mp h1
    obtain ⟨v, rfl, rv⟩ := q.one
    obtain ⟨a, ws, rfl, e1, q1⟩ := lstOf_rep t rv h2
    exact ⟨a, ns, rfl, SqL.of (by rw [e1, unAll_ints q1 h3]), k _ H (.int _) t (.refl _ _)⟩
  · cases e
theorem c_all (hc : X.calm = true) : CallR X (.builtin "all") (rCl X.mg T dAll) := CallR.imp (cr_all hc) fun vs H Q ⟨ι, av, η, ds, d, t, q, e, k⟩ => by
  unfold dAll at e
  split at e
  · obtain ⟨ns, h1, rfl⟩ := Option.map_eq_some_iff.mp e
    obtain ⟨zs, h2, h3⟩ := Option.bind_eq_some_iff.mp h1
    obtain ⟨v, rfl, rv⟩ := q.one
    obtain ⟨a, ws, rfl, e1, q1⟩ := lstOf_rep t rv h2
    exact ⟨a, ns, rfl, SqL.of (by rw [e1, unAll_bls q1 h3]), k _ H (.bl _) t (.refl _ _)⟩
  · cases e
theorem c_any (hc : X.calm = true) : CallR X (.builtin "any") (rCl X.mg T dAny) := CallR.imp (cr_any hc) fun vs H Q ⟨ι, av, η, ds, d, t, q, e, k⟩ => by
  unfold dAny at e
  split at e
  · obtain ⟨ns, h1, rfl⟩ := Option.map_eq_some_iff.mp e
    obtain ⟨zs, h2, h3⟩ := Option.bind_eq_some_iff.mp h1
    obtain ⟨v, rfl, rv⟩ := q.one
    obtain ⟨a, ws, rfl, e1, q1⟩ := lstOf_rep t rv h2
    exact ⟨a, ns, rfl, SqL.of (by rw [e1, unAll_bls q1 h3]), k _ H (.bl _) t (.refl _ _)⟩
  · cases e
theorem ints_arr : ∀ {us : List Value} {ns : List Int}, IntsAre us ns → ∃ xs : Array (Int × Tok), us.toArray = intItems xs ∧ xs.toList.map (·.1) = ns := fun h => ints_at h
theorem len_pos {xs : List Int} {m : Int} (h : m ∈ xs) : 0 < xs.length := List.length_pos_of_mem h
theorem c_max (hc : X.calm = true) : CallR X (.builtin "max") (rCl X.mg T dMax) := by
  intro pins s σ H xs us Q I r ⟨ι, av, η, ds, d, t, q, e, k⟩
  unfold dMax at e
  split at e
  · obtain ⟨m, h1, rfl⟩ := Option.map_eq_some_iff.mp e
    obtain ⟨ns, h2, h3⟩ := Option.bind_eq_some_iff.mp h1
    obtain ⟨zs, h4, h5⟩ := Option.bind_eq_some_iff.mp h2
    obtain ⟨v, rfl, rv⟩ := q.one
    obtain ⟨a, ws, rfl, e1, q1⟩ := seqOf_rep t rv h4
    obtain rfl := unAll_ints q1 h5
    have fin : ∀ M, M ∈ ns → (∀ y, y ∈ ns → y ≤ M) → Q (.int M) H := fun M g1 g2 => by
      have e2 : M = m := Option.some.inj ((maxI_of g1 g2).symm.trans h3)
      subst e2
      exact k _ H (.int _) t (.refl _ _)
    have hp := len_pos (maxI_mem h3).1
    rcases e1 with e1 | e1
    · exact cr_max hc pins s σ H _ us Q I r ⟨a, ns, rfl, SqL.of e1, hp, fin⟩
    · obtain ⟨its, rv2, hl, _⟩ := I.tuple (SqT.of e1)
      rw [Vals.ref1 r]
      exact max_tup (I.ok.hd hc) hl rv2.ints hp fun h' tk M t' hk g1 g2 => ⟨.int _, H, I.kept hk, ⟨_, rfl⟩, fin M g1 g2⟩
  · split at e
    · rename_i hl
      obtain ⟨m, h1, rfl⟩ := Option.map_eq_some_iff.mp e
      obtain ⟨ns, h2, h3⟩ := Option.bind_eq_some_iff.mp h1
      have e2 := unAll_ints q h2
      rw [e2] at r
      obtain ⟨ys, e4, e5⟩ := ints_arr r.ints
      have hlen : us.length = ds.length := by rw [← r.length, ← e2, q.length]
      have fin : ∀ M, M ∈ ys.toList.map (·.1) → (∀ y, y ∈ ys.toList.map (·.1) → y ≤ M) → Q (.int M) H := fun M g1 g2 => by
        rw [e5] at g1 g2
        have e6 : M = m := Option.some.inj ((maxI_of g1 g2).symm.trans h3)
        subst e6
        exact k _ H (.int _) t (.refl _ _)
      have hz : us.length ≤ sizeLine := by rw [sizeLine_eq]; omega
      match us, hlen, e4, hz with
      | [], hlen, _, _ => simp at hlen; omega
      | [_], hlen, _, _ => simp at hlen; omega
      | [a, b], _, e4, hz => exact max_args (I.ok.hd hc) (by unfold argsOk; kernel_rfl) e4 hz fun h' tk M t' hk g1 g2 => ⟨.int _, H, I.kept hk, ⟨_, rfl⟩, fin M g1 g2⟩
      | [a, b, c], _, e4, hz => exact max_args (I.ok.hd hc) (F.args_max3 a b c) e4 hz fun h' tk M t' hk g1 g2 => ⟨.int _, H, I.kept hk, ⟨_, rfl⟩, fin M g1 g2⟩
      | [a, b, c, z], _, e4, hz => exact max_args (I.ok.hd hc) (args_max4 a b c z) e4 hz fun h' tk M t' hk g1 g2 => ⟨.int _, H, I.kept hk, ⟨_, rfl⟩, fin M g1 g2⟩
      | _ :: _ :: _ :: _ :: _ :: _, hlen, _, _ => simp at hlen; omega
    · cases e
theorem c_min (hc : X.calm = true) : CallR X (.builtin "min") (rCl X.mg T dMin) := by
  intro pins s σ H xs us Q I r ⟨ι, av, η, ds, d, t, q, e, k⟩
  unfold dMin at e
  split at e
  · obtain ⟨m, h1, rfl⟩ := Option.map_eq_some_iff.mp e
    obtain ⟨ns, h2, h3⟩ := Option.bind_eq_some_iff.mp h1
    obtain ⟨zs, h4, h5⟩ := Option.bind_eq_some_iff.mp h2
    obtain ⟨v, rfl, rv⟩ := q.one
    obtain ⟨a, ws, rfl, e1, q1⟩ := seqOf_rep t rv h4
    obtain rfl := unAll_ints q1 h5
    have fin : ∀ M, M ∈ ns → (∀ y, y ∈ ns → M ≤ y) → Q (.int M) H := fun M g1 g2 => by
      have e2 : M = m := Option.some.inj ((minI_of g1 g2).symm.trans h3)
      subst e2
      exact k _ H (.int _) t (.refl _ _)
    have hp := len_pos (minI_mem h3).1
    rcases e1 with e1 | e1
    · exact cr_min hc pins s σ H _ us Q I r ⟨a, ns, rfl, SqL.of e1, hp, fin⟩
    · obtain ⟨its, rv2, hl, _⟩ := I.tuple (SqT.of e1)
      rw [Vals.ref1 r]
      exact min_tup (I.ok.hd hc) hl rv2.ints hp fun h' tk M t' hk g1 g2 => ⟨.int _, H, I.kept hk, ⟨_, rfl⟩, fin M g1 g2⟩
  · split at e
    · rename_i hl
      obtain ⟨m, h1, rfl⟩ := Option.map_eq_some_iff.mp e
      obtain ⟨ns, h2, h3⟩ := Option.bind_eq_some_iff.mp h1
      have e2 := unAll_ints q h2
      rw [e2] at r
      obtain ⟨ys, e4, e5⟩ := ints_arr r.ints
      have hlen : us.length = ds.length := by rw [← r.length, ← e2, q.length]
      have fin : ∀ M, M ∈ ys.toList.map (·.1) → (∀ y, y ∈ ys.toList.map (·.1) → M ≤ y) → Q (.int M) H := fun M g1 g2 => by
        rw [e5] at g1 g2
        have e6 : M = m := Option.some.inj ((minI_of g1 g2).symm.trans h3)
        subst e6
        exact k _ H (.int _) t (.refl _ _)
      have hz : us.length ≤ sizeLine := by rw [sizeLine_eq]; omega
      match us, hlen, e4, hz with
      | [], hlen, _, _ => simp at hlen; omega
      | [_], hlen, _, _ => simp at hlen; omega
      | [a, b], _, e4, hz => exact min_args (I.ok.hd hc) (by unfold argsOk; kernel_rfl) e4 hz fun h' tk M t' hk g1 g2 => ⟨.int _, H, I.kept hk, ⟨_, rfl⟩, fin M g1 g2⟩
      | [a, b, c], _, e4, hz => exact min_args (I.ok.hd hc) (F.args_min3 a b c) e4 hz fun h' tk M t' hk g1 g2 => ⟨.int _, H, I.kept hk, ⟨_, rfl⟩, fin M g1 g2⟩
      | [a, b, c, z], _, e4, hz => exact min_args (I.ok.hd hc) (args_min4 a b c z) e4 hz fun h' tk M t' hk g1 g2 => ⟨.int _, H, I.kept hk, ⟨_, rfl⟩, fin M g1 g2⟩
      | _ :: _ :: _ :: _ :: _ :: _, hlen, _, _ => simp at hlen; omega
    · cases e
theorem c_tuple : CallR X (.type "tuple") (rCl X.mg T dTuple) := CallR.imp call_tuple_of fun vs H Q ⟨ι, av, η, ds, d, t, q, e, k⟩ => by
  unfold dTuple at e
  split at e
  · cases e
    obtain ⟨v, rfl, rv⟩ := q.one
    cases rv with
    | tup e1 n m q1 => exact ⟨_, _, rfl, .inr ⟨SqT.of e1, k _ H (.tup e1 n m q1) t (.refl _ _)⟩⟩
  · obtain ⟨zs, h1, rfl⟩ := Option.map_eq_some_iff.mp e
    obtain ⟨v, rfl, rv⟩ := q.one
    obtain ⟨a, ws, rfl, e1, q1⟩ := lstOf_rep t rv h1
    exact ⟨_, _, rfl, .inl ⟨SqL.of e1, fun p hp => k _ _ (new_tup t q1 hp) (t.new hp) (Ext.new hp)⟩⟩
  · cases e
theorem c_list : CallR X (.type "list") (rCl X.mg T dList) := CallR.imp call_list_of fun vs H Q ⟨ι, av, η, ds, d, t, q, e, k⟩ => by
  unfold dList at e
  split at e
  · cases e
    obtain ⟨v, rfl, rv⟩ := q.one
    cases rv with
    | scr e1 n m => exact ⟨_, _, rfl, .inl (.inl (.inr ⟨_, e1⟩)), fun p hp => k _ _ (new_lst t (Reps.ints _) hp) (t.new hp) (Ext.new hp)⟩
  · obtain ⟨zs, h1, rfl⟩ := Option.map_eq_some_iff.mp e
    obtain ⟨v, rfl, rv⟩ := q.one
    obtain ⟨a, ws, rfl, e1, q1⟩ := seqOf_rep t rv h1
    exact ⟨_, _, rfl, e1.elim (fun z => .inl (SqL.of z)) (fun z => .inr (SqT.of z)), fun p hp => k _ _ (new_lst t q1 hp) (t.new hp) (Ext.new hp)⟩
  · cases e
end
end Dn
set_option Elab.async false
set_option linter.all false
set_option maxRecDepth 100000
/-! Dn, 6: further expressions; targets; statements. -/
namespace Dn
open PySem PySem.Spec PyProof.Rows L2

section
variable {X : Cx} {T : List (Addr × Str)} {E : XK}
/-! ### one-place operators, chains -/
def f1 (op : Store → D → Option D) (f : FE) : FE := fun ρ η => (f ρ η).bind fun x η1 => R.of η1 (op η1 x)
def dNeg (_ : Store) (x : D) : Option D := match x with
  | .int i => some (.int (-i))
  | _ => none
theorem d_neg {a : Expr} {pos : Pos} {f : FE} (ha : PE X a (tE X.mg T E f)) : PE X (.UnaryOp .USub a pos) (tE X.mg T E (f1 dNeg f)) :=
  PE.imp (pe_un un_neg ha) fun σ H Q ⟨ρ, η, ι, av, s, t, h⟩ => bindG s t h fun v d η₁ ι₁ H₁ e r t1 x1 s1 h1 => by
    cases d with
    | int i =>
      cases r
      exact ⟨i, rfl, h1 _ H₁ ι₁ (.int _) t1 (.refl _ _)⟩
    | _ => exact h1.elim
/-- a op b op' c -/
def fChain (o o' : Store → D → D → Option D) (f g h : FE) : FE := fun ρ η => (f ρ η).bind fun x η1 => (g ρ η1).bind fun y η2 => (R.of η2 ((o η2 x y).bind unB)).bind fun b η2 => if b then (h ρ η2).bind fun z η3 => R.of η3 (o' η3 y z) else .ok (.bl false) η2
theorem fChain_reads {mg : Str → Option Value} {o o' : Store → D → D → Option D} {f g h : FE} {σ : L2.St} {H : Hp} {Q : VK} (w : tE mg T E (fChain o o' f g h) σ H Q) : tChain (rOp mg T o) (rOp mg T o') (tE mg T E f) (tE mg T E g) (tE mg T E h) σ H Q := by
  obtain ⟨ρ, η, ι, av, s, t, w⟩ := w
  refine bindG s t w fun v d η₁ ι₁ H₁ e r t1 x1 s1 w1 => bindG s1 t1 w1 fun u d' η₂ ι₂ H₂ e2 r2 t2 x2 s2 w2 => ?_
  cases eo : o η₂ d d' with
  | none => rw [eo] at w2; exact w2.elim
  | some z =>
    rw [eo, Option.bind_some] at w2
    cases eb : unB z with
    | none => rw [eb] at w2; exact w2.elim
    | some b =>
      rw [eb] at w2
      obtain rfl := unB_some eb
      refine ⟨ι₂, av, η₂, d, d', _, t2, Rep.ext x2 r, r2, eo, fun q H₃ r3 t3 x3 => ?_⟩
      cases r3
      refine ⟨b, rfl, ?_⟩
      cases b with
      | false =>
        rw [if_neg Bool.false_ne_true]
        exact w2 (.bl false) H₃ ι₂ (.bl false) t3 x3
      | true =>
        rw [if_pos rfl]
        have w3 := PostG.mono x3 w2
        refine bindG (s2.ext x3) t3 w3 fun y d3 η₄ ι₄ H₄ e4 r4 t4 x4 s4 w4 => ?_
        cases eo' : o' η₄ d' d3 with
        | none => rw [eo'] at w4; exact w4.elim
        | some z' =>
          rw [eo'] at w4
          exact ⟨ι₄, av, η₄, d', d3, z', t4, Rep.ext x4 (Rep.ext x3 r2), r4, eo', fun u' H' r5 t5 x5 => w4 u' H' ι₄ r5 t5 x5⟩
theorem d_chain {op op' : CmpOp} {o o' : Store → D → D → Option D} {a b c : Expr} {pos : Pos} {f g h : FE} (ho : OpR X (compareOp op) (rOp X.mg T o)) (ho' : OpR X (compareOp op') (rOp X.mg T o')) (ha : PE X a (tE X.mg T E f)) (hb : PE X b (tE X.mg T E g)) (hc : PE X c (tE X.mg T E h))
    (hm : lastMarks [op, op'] [b, c] = false := by with_unfolding_all rfl) : PE X (.Compare a [op, op'] [b, c] pos) (tE X.mg T E (fChain o o' f g h)) := PE.imp (pe_chain ho ho' ha hb hc hm) fun _ _ _ w => fChain_reads w
theorem d_tchain {op op' : CmpOp} {o o' : Store → D → D → Option D} {a b c : Expr} {pos : Pos} {f g h : FE} (ho : OpR X (compareOp op) (rOp X.mg T o)) (ho' : OpR X (compareOp op') (rOp X.mg T o')) (ha : PE X a (tE X.mg T E f)) (hb : PE X b (tE X.mg T E g)) (hc : PE X c (tE X.mg T E h))
    (hm : lastMarks [op, op'] [b, c] = false := by with_unfolding_all rfl) : PT X (.Compare a [op, op'] [b, c] pos) (tT X.mg T E (fTest (fChain o o' f g h))) := PT.imp (pt_chain ho ho' ha hb hc hm) fun σ H Q w => by
  obtain ⟨ρ, η, ι, av, s, t, w⟩ := fTest_reads w
  exact fChain_reads ⟨ρ, η, ι, av, s, t, w⟩

/-! ### slices -/
def rlO : Rl (Option Int) (Option Int) := fun _ _ _ b b' => b = b'
abbrev FO := Ev → Store → R (Option Int)
def fNoPart : FO := fun _ η => .ok none η
def fPart (f : FE) : FO := fun ρ η => (f ρ η).bind fun d η1 => R.of η1 ((unI d).map some)
theorem PO.imp {e : Option Expr} {t t' : TO} (h : PO X e t) (k : ∀ σ H Q, t' σ H Q → t σ H Q) : PO X e t' := ⟨fun pins s σ H Q I w => h.run pins s σ H Q I (k σ H Q w)⟩
theorem p_none : PO X none (tG X.mg T rlO E fNoPart) := PO.imp po_none fun σ H Q ⟨ρ, η, ι, av, s, t, h⟩ => h none H ι rfl t (.refl _ _)
theorem unI_some {d : D} {i : Int} (h : unI d = some i) : d = .int i := by
  cases d <;> simp [unI] at h
  rw [h]
theorem p_some {e : Expr} {f : FE} (ha : PE X e (tE X.mg T E f)) : PO X (some e) (tG X.mg T rlO E (fPart f)) := PO.imp (po_some ha) fun σ H Q ⟨ρ, η, ι, av, s, t, h⟩ => bindG s t h fun v d η₁ ι₁ H₁ e r t1 x1 s1 h1 => by
  cases ei : unI d with
  | none => rw [ei] at h1; exact h1.elim
  | some i =>
    rw [ei] at h1
    obtain rfl := unI_some ei
    cases r
    exact ⟨i, rfl, h1 (some i) H₁ ι₁ rfl t1 (.refl _ _)⟩
def cutD {α : Type} (xs : List α) (lo hi : Option Int) : List α := (xs.drop (HT.sIx xs.length 0 lo)).take (HT.sIx xs.length xs.length hi - HT.sIx xs.length 0 lo)
def dSl (η : Store) (o : D) (lo hi : Option Int) : Option D := match o with
  | .tup xs => some (.tup (cutD xs lo hi))
  | .str z => if z.length ≤ sizeLine then some (.str (cutS z lo hi)) else none
  | .scr xs => some (.lst ((cutD xs lo hi).map .int))
  | o => (lstOf η o).map fun xs => .lst (cutD xs lo hi)
theorem cut_rep {mg : Str → Option Value} {ι av : List Addr} {H : Hp} {vs : List V} {ds : List D} {lo hi : Option Int} (r : Reps mg ι av H vs ds) : Reps mg ι av H (cutV vs lo hi) (cutD ds lo hi) := by
  unfold cutV cutD
  rw [r.length]
  exact (r.drop _).take _
theorem cut_map {α β : Type} (f : α → β) (xs : List α) (lo hi : Option Int) : cutD (xs.map f) lo hi = (cutD xs lo hi).map f := by
  unfold cutD
  rw [List.length_map, List.map_take, List.map_drop]
theorem cut_whole {α : Type} {xs : List α} {lo hi : Option Int} (h : HT.sIx xs.length 0 lo = 0 ∧ HT.sIx xs.length xs.length hi = xs.length) : cutD xs lo hi = xs := by
  unfold cutD
  rw [h.1, h.2, List.drop_zero, Nat.sub_zero, List.take_length]
/-- a slice by values -/
def rSl (mg : Str → Option Value) (T : List (Addr × Str)) : V → Option Int → Option Int → Hp → VK → Prop := fun x lo hi H Q => ∃ (ι av : List Addr) (η : Store) (o d : D), StRep mg T ι av H η ∧ Rep mg ι av H x o ∧ dSl η o lo hi = some d ∧
  ∀ (v : V) (H' : Hp), Rep mg ι av H' v d → StRep mg T ι av H' η → Ext ι H ι H' → Q v H'
theorem s_all : SlR X (rSl X.mg T) := by
  intro pins s σ H x v vl vu lo hi sl Q I rx hs pl pu ⟨ι, av, η, o, d, t, r, e, k⟩
  unfold dSl at e
  split at e
  · cases e
    cases r with
    | tup e1 n m q =>
      refine sl_tupA pins s σ H _ v vl vu lo hi sl Q I rx hs pl pu ⟨_, _, rfl, SqT.of e1, fun z => ?_, fun z p hp => k _ _ (new_tup t (cut_rep q) hp) (t.new hp) (Ext.new hp)⟩
      rw [q.length] at z
      exact k _ H (by rw [cut_whole z]; exact .tup e1 n m q) t (.refl _ _)
  · split at e
    · rename_i hz
      cases e
      cases r
      exact sl_str pins s σ H _ v vl vu lo hi sl Q I rx hs pl pu ⟨_, rfl, hz, k _ H (.str _) t (.refl _ _)⟩
    · cases e
  · cases e
    cases r with
    | scr e1 n m =>
      refine sl_list pins s σ H _ v vl vu lo hi sl Q I rx hs pl pu ⟨_, _, rfl, .inl (.inr ⟨_, e1⟩), fun p hp => k _ _ (new_lst t ?_ hp) (t.new hp) (Ext.new hp)⟩
      rw [show cutV = cutD from rfl, cut_map]
      exact Reps.ints _
  · obtain ⟨zs, h1, rfl⟩ := Option.map_eq_some_iff.mp e
    obtain ⟨a, vs, rfl, e1, q⟩ := lstOf_rep t r h1
    exact sl_list pins s σ H _ v vl vu lo hi sl Q I rx hs pl pu ⟨_, _, rfl, SqL.of e1, fun p hp => k _ _ (new_lst t (cut_rep q) hp) (t.new hp) (Ext.new hp)⟩
def fSl (f : FE) (l h : FO) : FE := fun ρ η => (f ρ η).bind fun o η1 => (l ρ η1).bind fun lo η2 => (h ρ η2).bind fun hi η3 => R.of η3 (dSl η3 o lo hi)
theorem d_slice {e : Expr} {lo hi : Option Expr} {p2 pos : Pos} {f : FE} {l h : FO} (ha : PE X e (tE X.mg T E f)) (hl : PO X lo (tG X.mg T rlO E l)) (hh : PO X hi (tG X.mg T rlO E h)) : PE X (.Subscript e (.Slice lo hi none p2) pos) (tE X.mg T E (fSl f l h)) :=
  PE.imp (pe_slice s_all ha hl hh) fun σ H Q ⟨ρ, η, ι, av, s, t, w⟩ => bindG s t w fun v d η₁ ι₁ H₁ e r t1 x1 s1 w1 => bindG s1 t1 w1 fun vl lo η₂ ι₂ H₂ e2 r2 t2 x2 s2 w2 => bindG s2 t2 w2 fun vh hi η₃ ι₃ H₃ e3 r3 t3 x3 s3 w3 => by
    obtain rfl : vl = lo := r2
    obtain rfl : vh = hi := r3
    cases eo : dSl η₃ d vl vh with
    | none => rw [eo] at w3; exact w3.elim
    | some z =>
      rw [eo] at w3
      exact ⟨ι₃, av, η₃, d, z, t3, Rep.ext x3 (Rep.ext x2 r), eo, fun u H' r4 t4 x4 => w3 u H' ι₃ r4 t4 x4⟩

/-! ### targets -/
abbrev FG := D → Ev → Store → R Ev
/-- the same but at some places -/
def Off (sl : List Nat) (σ σ' : L2.St) : Prop := σ.length = σ'.length ∧ ∀ j, j ∉ sl → σ[j]? = σ'[j]?
theorem Off.refl (sl : List Nat) (σ : L2.St) : Off sl σ σ := ⟨rfl, fun _ _ => rfl⟩
theorem Off.trans {sl sl' : List Nat} {σ σ' σ'' : L2.St} (a : Off sl σ σ') (b : Off sl' σ' σ'') : Off (sl ++ sl') σ σ'' :=
  ⟨a.1.trans b.1, fun j h => (a.2 j fun z => h (List.mem_append_left _ z)).trans (b.2 j fun z => h (List.mem_append_right _ z))⟩
theorem Off.set (σ : L2.St) (i : Nat) (v : Option V) : Off [i] σ (σ.set i v) := ⟨by rw [List.length_set], fun j h => by rw [List.getElem?_set_ne (by simp at h; omega)]⟩
theorem wipe_at (σ : L2.St) (j : Nat) : ∀ vs : List Nat, (wipe σ vs)[j]? = if j ∈ vs then (if j < σ.length then some none else none) else σ[j]?
  | [] => by simp [wipe]
  | v :: vs => by
    unfold wipe
    by_cases h : v = j
    · subst h
      rw [if_pos List.mem_cons_self]
      by_cases hv : v < σ.length
      · rw [List.getElem?_set_self (by rw [wipe_length]; exact hv), if_pos hv]
      · rw [List.getElem?_eq_none (by rw [List.length_set, wipe_length]; omega), if_neg hv]
    · rw [List.getElem?_set_ne h, wipe_at σ j vs]
      have : (j ∈ v :: vs) = (j ∈ vs) := by
        rw [List.mem_cons]
        exact propext ⟨fun z => z.resolve_left fun e => h e.symm, .inr⟩
      simp only [this]
theorem Off.wipe {sl vs : List Nat} {σ σ' : L2.St} (o : Off sl σ σ') (h : ∀ j ∈ sl, j ∈ vs) : wipe σ' vs = wipe σ vs := by
  refine List.ext_getElem? fun j => ?_
  rw [wipe_at, wipe_at, o.1]
  by_cases hj : j ∈ vs
  · rw [if_pos hj, if_pos hj]
  · rw [if_neg hj, if_neg hj, o.2 j fun z => hj (h j z)]
/-- behind a target -/
def PostT (mg : Str → Option Value) (T : List (Addr × Str)) (ι av : List Addr) (σ : L2.St) (H : Hp) (sl : List Nat) (E : XK) (Q : L2.St → Hp → Prop) : R Ev → Prop
  | .ok ρ' η' => ∀ (σ' : L2.St) (H' : Hp) (ι' : List Addr), Sim mg ι' av ρ' σ' H' → StRep mg T ι' av H' η' → Ext ι H ι' H' → Off sl σ σ' → Q σ' H'
  | .rse c d η' => PostX mg T ι av H E c d η'
  | .stk => False
def tTg (mg : Str → Option Value) (T : List (Addr × Str)) (sl : List Nat) (E : XK) (g : FG) : TG := fun v σ H Q => ∃ (ρ : Ev) (η : Store) (ι av : List Addr) (d : D), Sim mg ι av ρ σ H ∧ StRep mg T ι av H η ∧ Rep mg ι av H v d ∧ PostT mg T ι av σ H sl E Q (g d ρ η)
theorem PG.imp {e : Expr} {t t' : TG} (h : PG X e t) (k : ∀ v σ H Q, t' v σ H Q → t v σ H Q) : PG X e t' := ⟨fun pins s σ H v u Q I r w => h.run pins s σ H v u Q I r (k v σ H Q w)⟩
def gN (i : Nat) : FG := fun d ρ η => .ok (ρ.set i (some d)) η
theorem t_name {i : Nat} {x : Str} {pos : Pos} (hN : X.N.Nodup) (hi : X.N[i]? = some x) (hx : Loc X.env.scope x) (hf : X.fn x = true ∨ X.env.scope.names.lookup x = some .local := by first | exact .inl rfl | exact .inr rfl | assumption) : PG X (.Name x pos) (tTg X.mg T [i] E (gN i)) :=
  PG.imp (pg_name hN hi hx hf) fun v σ H Q ⟨ρ, η, ι, av, d, s, t, r, h⟩ => h _ H ι (s.set r i) t (.refl _ _) (Off.set σ i _)
/-- several targets -/
abbrev FGs := List D → Ev → Store → R Ev
def gsN : FGs := fun ds ρ η => match ds with
  | [] => .ok ρ η
  | _ => .stk
def gsC (g : FG) (h : FGs) : FGs := fun ds ρ η => match ds with
  | d :: r => (g d ρ η).bind fun ρ1 η1 => h r ρ1 η1
  | [] => .stk
def tTgs (mg : Str → Option Value) (T : List (Addr × Str)) (sl : List Nat) (E : XK) (g : FGs) : TGs := fun vs σ H Q => ∃ (ρ : Ev) (η : Store) (ι av : List Addr) (ds : List D), Sim mg ι av ρ σ H ∧ StRep mg T ι av H η ∧ Reps mg ι av H vs ds ∧ PostT mg T ι av σ H sl E Q (g ds ρ η)
theorem PGs.imp {es : List Expr} {t t' : TGs} (h : PGs X es t) (k : ∀ v σ H Q, t' v σ H Q → t v σ H Q) : PGs X es t' := ⟨fun pins s σ H v u Q I r w => h.run pins s σ H v u Q I r (k v σ H Q w)⟩
theorem ts_nil : PGs X [] (tTgs X.mg T [] E gsN) := PGs.imp pgs_nil fun vs σ H Q ⟨ρ, η, ι, av, ds, s, t, r, h⟩ => by
  cases r with
  | nil => exact ⟨rfl, h _ H ι s t (.refl _ _) (.refl _ _)⟩
  | cons _ _ => exact h.elim
theorem PostT.mono {mg : Str → Option Value} {ι ι₁ av : List Addr} {σ σ₁ : L2.St} {H H₁ : Hp} {sl sl₁ : List Nat} {Q : L2.St → Hp → Prop} {r : R Ev} (x : Ext ι H ι₁ H₁) (o : Off sl σ σ₁) (h : PostT mg T ι av σ H (sl ++ sl₁) E Q r) : PostT mg T ι₁ av σ₁ H₁ sl₁ E Q r := by
  cases r with
  | ok a η' => exact fun b H' ι' r s y z => h b H' ι' r s (x.trans y) (o.trans z)
  | rse c d η' => exact PostX.mono x h
  | stk => exact h
theorem ts_cons {e : Expr} {es : List Expr} {g : FG} {h : FGs} {sl sl' : List Nat} (h1 : PG X e (tTg X.mg T sl E g)) (h2 : PGs X es (tTgs X.mg T sl' E h)) (hs : (assignEach (e :: es) X.env).map (·.2) = assign e X.env :: (assignEach es X.env).map (·.2) := by rfl) : PGs X (e :: es) (tTgs X.mg T (sl ++ sl') E (gsC g h)) :=
  PGs.imp (pgs_cons h1 h2 hs) fun vs σ H Q ⟨ρ, η, ι, av, ds, s, t, r, w⟩ => by
    cases r with
    | nil => exact w.elim
    | @cons v vr d dr r rt =>
      refine ⟨v, vr, rfl, ρ, η, ι, av, d, s, t, r, ?_⟩
      cases eg : g d ρ η with
      | stk => simp only [gsC, eg] at w; exact w.elim
      | rse c d' η' => simp only [gsC, eg] at w; exact w
      | ok ρ1 η1 =>
        simp only [gsC, eg] at w
        exact fun σ' H' ι' s' t' x' o' => ⟨ρ1, η1, ι', av, dr, s', t', rt.ext x', PostT.mono x' o' w⟩
def unT : D → Option (List D)
  | .tup xs => some xs
  | _ => none
def gT (n : Nat) (h : FGs) : FG := fun d ρ η => match unT d with
  | some ds => if ds.length = n then h ds ρ η else .stk
  | none => .stk
theorem t_tup {es : List Expr} {k n : Nat} {pos : Pos} {h : FGs} {sl : List Nat} (hc : X.calm = true) (hh : PGs X es (tTgs X.mg T sl E h)) (hn : (assignEach es X.env).length = n := by rfl) (hst : (assignEach es X.env).findIdx? (·.1) = none := by rfl) : PG X (.Tuple es k pos) (tTg X.mg T sl E (gT n h)) :=
  PG.imp (pg_tup hc hh hn hst) fun v σ H Q ⟨ρ, η, ι, av, d, s, t, r, w⟩ => by
    cases d with
    | tup ds =>
      cases r with
      | tup e1 n1 m1 q =>
        simp only [gT, unT] at w
        split at w
        · rename_i hl
          exact ⟨_, _, rfl, SqT.of e1, by rw [q.length]; exact hl, ρ, η, ι, av, ds, s, t, q, w⟩
        · exact w.elim
    | _ => exact w.elim
end
/-! ### o[i] = d -/
def put {κ α : Type} [DecidableEq κ] (ks : List κ) (xs : List α) (k : κ) (d : α) : List κ × List α :=
  if k ∈ ks then (ks, (ks.zip xs).map fun p => if p.1 = k then d else p.2) else (ks ++ [k], xs ++ [d])
theorem any_zip {κ α : Type} [DecidableEq κ] (k : κ) : ∀ (ks : List κ) (xs : List α), ks.length = xs.length → ((ks.zip xs).any fun p => decide (p.1 = k)) = decide (k ∈ ks)
  | [], _, _ => rfl
  | q :: ks, [], h => by simp at h
  | q :: ks, x :: xs, h => by
    rw [List.zip_cons_cons, List.any_cons, any_zip k ks xs (by simpa using h)]
    by_cases e : q = k
    · simp [e]
    · have e' : ¬ k = q := fun z => e z.symm
      simp [e, e']
theorem map_zip {κ α : Type} [DecidableEq κ] (k : κ) (d : α) : ∀ (ks : List κ) (xs : List α), ks.length = xs.length → (ks.zip xs).map (fun p => if p.1 = k then (p.1, d) else p) = ks.zip ((ks.zip xs).map fun p => if p.1 = k then d else p.2)
  | [], _, _ => rfl
  | q :: ks, [], h => by simp at h
  | q :: ks, x :: xs, h => by
    simp only [List.zip_cons_cons, List.map_cons, map_zip k d ks xs (by simpa using h)]
    by_cases e : q = k <;> simp [e]
theorem put_zip {κ : Type} [DecidableEq κ] {ks : List κ} {vs : List V} (k : κ) (v : V) (h : ks.length = vs.length) : putK (ks.zip vs) k v = (put ks vs k v).1.zip (put ks vs k v).2 := by
  unfold putK put
  rw [any_zip k ks vs h]
  by_cases e : k ∈ ks
  · rw [if_pos e, if_pos (decide_eq_true e)]
    exact map_zip k v ks vs h
  · rw [if_neg e, if_neg (by simp [e]), List.zip_append h]
    rfl
theorem put_keys {κ α β : Type} [DecidableEq κ] (ks : List κ) (xs : List α) (ys : List β) (k : κ) (x : α) (y : β) : (put ks xs k x).1 = (put ks ys k y).1 := by
  unfold put
  split <;> rfl
theorem put_len {κ α : Type} [DecidableEq κ] {ks : List κ} {xs : List α} (k : κ) (x : α) (h : ks.length = xs.length) : (put ks xs k x).1.length = (put ks xs k x).2.length := by
  unfold put
  split
  · rw [List.length_map, List.length_zip, ← h, Nat.min_self]
  · rw [List.length_append, List.length_append, h]
    rfl
section
variable {mg : Str → Option Value} {ι av : List Addr} {H : Hp}
theorem put_reps0 {κ : Type} [DecidableEq κ] (k : κ) {v : V} {d : D} (r : Rep mg ι av H v d) : ∀ {ks : List κ} {vs : List V} {ds : List D}, Reps mg ι av H vs ds → Reps mg ι av H ((ks.zip vs).map fun p => if p.1 = k then v else p.2) ((ks.zip ds).map fun p => if p.1 = k then d else p.2)
  | [], _, _, _ => .nil
  | _ :: _, _, _, .nil => .nil
  | q :: ks, _, _, .cons r1 t => by
    simp only [List.zip_cons_cons, List.map_cons]
    refine .cons ?_ (put_reps0 k r t)
    by_cases e : q = k
    · rw [if_pos e, if_pos e]; exact r
    · rw [if_neg e, if_neg e]; exact r1
theorem put_reps {κ : Type} [DecidableEq κ] (k : κ) {v : V} {d : D} (r : Rep mg ι av H v d) {ks : List κ} {vs : List V} {ds : List D} (q : Reps mg ι av H vs ds) : Reps mg ι av H (put ks vs k v).2 (put ks ds k d).2 := by
  unfold put
  split
  · exact put_reps0 k r q
  · exact q.append (.cons r .nil)
end
def dSet (η : Store) (o i d : D) : Option Store := match o with
  | .ref n => match η[n]? with
    | some (.l xs) => match i with
      | .int j => (ixN xs.length j).map fun q => η.set n (.l (xs.set q d))
      | _ => none
    | some (.dK ks xs) => match keyOf i with
      | some k => if ks.length < sizeLine then some (η.set n (.dK (put ks xs k d).1 (put ks xs k d).2)) else none
      | none => none
    | some (.dT ks xs) => match tkeyOf i with
      | some k => if ks.length < sizeLine then some (η.set n (.dT (put ks xs k d).1 (put ks xs k d).2)) else none
      | none => none
    | none => none
  | _ => none
section
variable {X : Cx} {T : List (Addr × Str)} {E : XK}
theorem Rep.put {mg : Str → Option Value} {ι av : List Addr} {H : Hp} {v : V} {d : D} {a : Addr} {o : HO} (ha : a ∈ ι) (r : Rep mg ι av H v d) : Rep mg ι av (upd H a o) v d := r.ext (Ext.put ha)
/-- the store's object that a value names changes -/
theorem set_ok {pins : List (Addr × Obj)} {s : Shared} {σ : L2.St} {H : Hp} {ι av : List Addr} {η η' : Store} {x y z : V} {ov iv u : Value} {o i d : D} {Q : Unit → Shared → Prop} (hu : X.A.units + 70 < cLine) (I : Inv X pins σ H s) (t : StRep X.mg T ι av H η)
    (ro : Rep X.mg ι av H x o) (ri : Rep X.mg ι av H y i) (rd : Rep X.mg ι av H z d) (qo : RelV x ov) (qi : RelV y iv) (qd : RelV z u) (e : dSet η o i d = some η')
    (h : ∀ H' s', Inv X pins σ H' s' → StRep X.mg T ι av H' η' → Ext ι H ι H' → Q () s') : wpAny (model X.prog X.w) X.A (setItem ov iv u) Q X.xe s := by
  cases o with
  | ref n =>
    cases ro with
    | @ref a _ ea =>
      obtain ⟨m, em, rm⟩ := t.has ea
      have ha : a ∈ ι := List.mem_of_getElem? ea
      simp only [dSet, em] at e
      cases rm with
      | @l vs ds e1 q1 =>
        cases i with
        | int j =>
          obtain ⟨q, hq, rfl⟩ := Option.map_eq_some_iff.mp e
          cases ri
          refine thn (set_list pins s σ H _ _ z ov iv u (fun H' => H' = upd H a (.lst (vs.set q z))) I qo qi qd ⟨_, _, _, q, rfl, rfl, e1, by rw [q1.length]; exact hq, rfl⟩) fun _ s' ⟨H', I', eH⟩ => ?_
          subst eH
          exact h _ s' I' (t.put ea (.l upd_same ((Reps.set rd q q1).ext (Ext.put ha)))) (Ext.put ha)
        | _ => cases e
      | @dK ks vs ds e1 l q1 =>
        cases ek : keyOf i with
        | none => rw [ek] at e; cases e
        | some k =>
          rw [ek] at e
          dsimp only at e
          split at e
          · rename_i hz
            cases e
            obtain rfl := keyOf_rep ri ek
            obtain rfl : ov = Value.ref a := qo
            have hz' : (ks.zip vs).length < sizeLine := by rw [List.length_zip, ← l, Nat.min_self]; exact hz
            refine d_setItem (by omega) I (DPut.k e1 hz') qi qd fun s' I' => h _ s' I' (t.put ea ?_) (Ext.put ha)
            have ep := put_zip k z l
            refine .dK (vs := (put ks vs k z).2) (by rw [upd_same, ep, put_keys ks vs ds k z d]) ?_ ((put_reps k rd q1).ext (Ext.put ha))
            rw [put_keys ks ds vs k d z]
            exact put_len k z l
          · cases e
      | @dT ks vs ds e1 l q1 =>
        cases ek : tkeyOf i with
        | none => rw [ek] at e; cases e
        | some k =>
          rw [ek] at e
          dsimp only at e
          split at e
          · rename_i hz
            cases e
            cases ri with
            | tup eb _ _ qb =>
              have ek' := keysOf_rep qb ek
              rw [ek'] at eb
              obtain rfl : ov = Value.ref a := qo
              have hz' : (ks.zip vs).length < sizeLine := by rw [List.length_zip, ← l, Nat.min_self]; exact hz
              refine d_setItem (by omega) I (DPut.t e1 eb hz') qi qd fun s' I' => h _ s' I' (t.put ea ?_) (Ext.put ha)
              have ep := put_zip k z l
              refine .dT (vs := (put ks vs k z).2) (by rw [upd_same, ep, put_keys ks vs ds k z d]) ?_ ((put_reps k rd q1).ext (Ext.put ha))
              rw [put_keys ks ds vs k d z]
              exact put_len k z l
            | _ => cases ek
          · cases e
  | _ => cases e
/-- o[i] as a target -/
def rSet (mg : Str → Option Value) (T : List (Addr × Str)) : TSet := fun x y z H Q => ∃ (ι av : List Addr) (η η' : Store) (o i d : D), StRep mg T ι av H η ∧ Rep mg ι av H x o ∧ Rep mg ι av H y i ∧ Rep mg ι av H z d ∧ dSet η o i d = some η' ∧ ∀ H', StRep mg T ι av H' η' → Ext ι H ι H' → Q H'
theorem set_any (hu : X.A.units + 70 < cLine) : PSet X (rSet X.mg T) := fun pins s σ H x y z ov iv u Q I qo qi qd ⟨ι, av, η, η', o, i, d, t, ro, ri, rd, e, k⟩ =>
  set_ok hu I t ro ri rd qo qi qd e fun H' s' I' t' x' => ⟨H', I', k H' t' x'⟩
/-- of a store that may not be there -/
def R.st {α : Type} (a : α) : Option Store → R α
  | some η => .ok a η
  | none => .stk
def gSb (fo fi : FE) : FG := fun d ρ η => (fo ρ η).bind fun o η1 => (fi ρ η1).bind fun i η2 => R.st ρ (dSet η2 o i d)
theorem bindT {β α : Type} {rl : Rl β α} {mg : Str → Option Value} {ι av : List Addr} {H : Hp} {σ : L2.St} {sl : List Nat} {ρ : Ev} {η : Store} {f : Ev → Store → R α} {k : α → Store → R Ev} {Q : L2.St → Hp → Prop} {Qm : β → Hp → Prop}
    (s : Sim mg ι av ρ σ H) (t : StRep mg T ι av H η) (h : PostT mg T ι av σ H sl E Q ((f ρ η).bind k))
    (hk : ∀ (b : β) (a : α) (η₁ : Store) (ι₁ : List Addr) (H₁ : Hp), f ρ η = .ok a η₁ → rl ι₁ av H₁ b a → StRep mg T ι₁ av H₁ η₁ → Ext ι H ι₁ H₁ → Sim mg ι₁ av ρ σ H₁ → PostT mg T ι₁ av σ H₁ sl E Q (k a η₁) → Qm b H₁) :
    tG mg T rl E f σ H Qm := by
  refine ⟨ρ, η, ι, av, s, t, ?_⟩
  cases e : f ρ η with
  | ok a η₁ =>
    rw [e] at h
    exact fun b H₁ ι₁ r u x => hk b a η₁ ι₁ H₁ e r u x (s.ext x) (PostT.mono (sl := []) x (.refl _ _) h)
  | rse c d η₁ =>
    rw [e] at h
    exact h
  | stk =>
    rw [e] at h
    exact h
theorem t_sub {o i : Expr} {pos : Pos} {fo fi : FE} (hu : X.A.units + 70 < cLine) (ho : PE X o (tE X.mg T E fo)) (hi : PE X i (tE X.mg T E fi)) (ha : ∀ v, assign (.Subscript o i pos) X.env v = (do
      let ov ← holding [v] (eval o X.env)
      let iv ← holding [v, ov] (eval i X.env)
      standAt pos
      holding [v, ov, iv] (setItem ov iv v)
      release [v, ov, iv] []) := by intro _; rfl) : PG X (.Subscript o i pos) (tTg X.mg T [] E (gSb fo fi)) :=
  PG.imp (pg_sub ho hi (set_any (T := T) hu) ha) fun v σ H Q ⟨ρ, η, ι, av, d, s, t, r, w⟩ =>
    bindT s t w fun vo o η₁ ι₁ H₁ e r1 t1 x1 s1 w1 => bindT s1 t1 w1 fun vi i η₂ ι₂ H₂ e2 r2 t2 x2 s2 w2 => by
      cases eo : dSet η₂ o i d with
      | none => rw [eo] at w2; exact w2.elim
      | some η₃ =>
        rw [eo] at w2
        exact ⟨ι₂, av, η₂, η₃, o, i, d, t2, r1.ext x2, r2, (r.ext x1).ext x2, eo, fun H' t3 x3 => w2 σ H' ι₂ (s2.ext x3) t3 x3 (.refl _ _)⟩

/-! ### statements -/
abbrev tB (mg : Str → Option Value) (T : List (Addr × Str)) (E : XK) (f : FS) : TS := tS mg T E f
def sNil : FS := fun ρ η => .nx ρ η
def sSeq (f g : FS) : FS := fun ρ η => match f ρ η with
  | .nx ρ' η' => g ρ' η'
  | r => r
theorem ss_nil : PSs X [] (tS X.mg T E sNil) := PSs.imp pss_nil fun Dn σ H ⟨ρ, η, ι, av, s, t, h⟩ => h σ H ι s t (.refl _ _)
theorem ss_cons {st : Stmt} {rest : List Stmt} {f g : FS} (h1 : PS X st (tS X.mg T E f)) (h2 : PSs X rest (tS X.mg T E g)) : PSs X (st :: rest) (tS X.mg T E (sSeq f g)) :=
  PSs.imp (pss_cons h1 h2) fun Dn σ H ⟨ρ, η, ι, av, s, t, h⟩ => by
    refine ⟨ρ, η, ι, av, s, t, ?_⟩
    unfold sSeq at h
    cases e : f ρ η with
    | nx ρ' η' =>
      rw [e] at h
      exact fun σ' H' ι' s' t' x' => ⟨ρ', η', ι', av, s', t', PostS.mono x' h⟩
    | rt d η' => rw [e] at h; exact h
    | bk ρ' η' => rw [e] at h; exact h
    | ct ρ' η' => rw [e] at h; exact h
    | rse c d η' => rw [e] at h; exact h
    | stk => rw [e] at h; exact h
theorem ss_one {st : Stmt} {f : FS} (h1 : PS X st (tS X.mg T E f)) : PSs X [st] (tS X.mg T E f) := pss_one h1
theorem s_doc {x j pos pos'} : PS X (.Expr (.Constant (.str x) j pos) pos') (tS X.mg T E sNil) := PS.imp ps_doc fun Dn σ H ⟨ρ, η, ι, av, s, t, h⟩ => h σ H ι s t (.refl _ _)
theorem s_pass {pos} : PS X (.Pass pos) (tS X.mg T E sNil) := PS.imp ps_pass fun Dn σ H ⟨ρ, η, ι, av, s, t, h⟩ => h σ H ι s t (.refl _ _)
def sBrk : FS := fun ρ η => .bk ρ η
def sCnt : FS := fun ρ η => .ct ρ η
theorem s_break {pos} : PS X (.Break pos) (tS X.mg T E sBrk) := PS.imp ps_break fun Dn σ H ⟨ρ, η, ι, av, s, t, h⟩ => h σ H ι s t (.refl _ _)
theorem s_continue {pos} : PS X (.Continue pos) (tS X.mg T E sCnt) := PS.imp ps_continue fun Dn σ H ⟨ρ, η, ι, av, s, t, h⟩ => h σ H ι s t (.refl _ _)
def sSet (i : Nat) (f : FE) : FS := fun ρ η => (f ρ η).thn fun d η1 => .nx (ρ.set i (some d)) η1
theorem s_set {i : Nat} {x : Str} {e : Expr} {pos pos' : Pos} {f : FE} (hN : X.N.Nodup) (hi : X.N[i]? = some x) (hx : Loc X.env.scope x) (he : PE X e (tE X.mg T E f)) (hs : swapsWith e (some (.Name x pos')) pos.line X.env = pure false := by rfl)
    (hf : X.fn x = true ∨ X.env.scope.names.lookup x = some .local := by first | exact .inl rfl | exact .inr rfl | assumption) : PS X (.Assign [.Name x pos'] e pos) (tS X.mg T E (sSet i f)) :=
  PS.imp (ps_set hN hi hx he hs hf) fun Dn σ H ⟨ρ, η, ι, av, s, t, h⟩ => bindS s t h fun v d η₁ ι₁ H₁ e r t1 x1 s1 h1 => h1 _ H₁ ι₁ (s1.set r i) t1 (.refl _ _)
def sAsg (f : FE) (g : FG) : FS := fun ρ η => (f ρ η).thn fun d η1 => (g d ρ η1).thn fun ρ' η2 => .nx ρ' η2
theorem s_asg {tg e : Expr} {pos : Pos} {f : FE} {g : FG} {sl : List Nat} (he : PE X e (tE X.mg T E f)) (hg : PG X tg (tTg X.mg T sl E g)) (hs : swapsWithSole [tg] e pos.line X.env = pure false := by rfl) (hw : swappedStores [tg] e X.env = pure none := by rfl)
    (h1 : (assignEach [tg] X.env).map (·.2) = [assign tg X.env] := by rfl) : PS X (.Assign [tg] e pos) (tS X.mg T E (sAsg f g)) :=
  PS.imp (ps_asg he hg hs hw h1) fun Dn σ H ⟨ρ, η, ι, av, s, t, h⟩ => bindS s t h fun v d η₁ ι₁ H₁ e r t1 x1 s1 h1 => by
    refine ⟨ρ, η₁, ι₁, av, d, s1, t1, r, ?_⟩
    cases eg : g d ρ η₁ with
    | stk => rw [eg] at h1; exact h1.elim
    | rse c d' η' => rw [eg] at h1; exact h1
    | ok ρ1 η1 =>
      rw [eg] at h1
      exact fun σ' H' ι' s' t' x' _ => h1 σ' H' ι' s' t' x'
/-- a, b = x, y -/
def sPar (i j : Nat) (g : FA) : FS := fun ρ η => (g ρ η).thn fun ds η1 => match ds with
  | [x, y] => .nx ((ρ.set i (some x)).set j (some y)) η1
  | _ => .stk
theorem s_par {i j : Nat} {x y : Str} {a b : Expr} {g : FA} {px py pt pos : Pos} {kt k2 pt2} (hc : X.calm = true) (hN : X.N.Nodup) (hi : X.N[i]? = some x) (hj : X.N[j]? = some y) (hij : i ≠ j)
    (hx : X.env.scope.names.lookup x = some .local) (hy : X.env.scope.names.lookup y = some .local) (ha : PA X [a, b] (tA X.mg T E g))
    (hw : swappedStores [.Tuple [.Name x px, .Name y py] kt pt] (.Tuple [a, b] k2 pt2) X.env = pure (some [x, y]))
    (hs : swapsWithSole [.Tuple [.Name x px, .Name y py] kt pt] (.Tuple [a, b] k2 pt2) pos.line X.env = pure false := by rfl) : PS X (.Assign [.Tuple [.Name x px, .Name y py] kt pt] (.Tuple [a, b] k2 pt2) pos) (tS X.mg T E (sPar i j g)) :=
  PS.imp (ps_par hc hN hi hj hij hx hy ha hw hs) fun Dn σ H ⟨ρ, η, ι, av, s, t, h⟩ => bindS s t h fun vs ds η₁ ι₁ H₁ e r t1 x1 s1 h1 => by
    cases r with
    | nil => exact h1.elim
    | cons r1 rt =>
      cases rt with
      | nil => exact h1.elim
      | cons r2 rt =>
        cases rt with
        | nil => exact ⟨_, _, rfl, h1 _ H₁ ι₁ ((s1.set r1 i).set r2 j) t1 (.refl _ _)⟩
        | cons _ _ => exact h1.elim
def sIf (c : FT) (f g : FS) : FS := fun ρ η => (c ρ η).thn fun b η1 => if b then f ρ η1 else g ρ η1
theorem s_if {c : Expr} {a b : List Stmt} {pos : Pos} {h : FT} {f g : FS} (hc : PT X c (tT X.mg T E h)) (ha : PSs X a (tS X.mg T E f)) (hb : PSs X b (tS X.mg T E g)) : PS X (.If c a b pos) (tS X.mg T E (sIf h f g)) :=
  PS.imp (ps_if hc ha hb) fun Dn σ H ⟨ρ, η, ι, av, s, t, h⟩ => bindS s t h fun c b η₁ ι₁ H₁ e r t1 x1 s1 h1 => by
    obtain rfl : c = b := r
    cases c with
    | true => exact ⟨ρ, η₁, ι₁, av, s1, t1, h1⟩
    | false => exact ⟨ρ, η₁, ι₁, av, s1, t1, h1⟩
def sRet (f : FE) : FS := fun ρ η => (f ρ η).thn fun d η1 => .rt d η1
theorem s_ret {e : Expr} {pos : Pos} {f : FE} (he : PE X e (tE X.mg T E f)) : PS X (.Return (some e) pos) (tS X.mg T E (sRet f)) :=
  PS.imp (ps_ret he) fun Dn σ H ⟨ρ, η, ι, av, s, t, h⟩ => bindS s t h fun v d η₁ ι₁ H₁ e r t1 x1 s1 h1 => h1 v H₁ ι₁ r t1 (.refl _ _)
def sExp (f : FE) : FS := fun ρ η => (f ρ η).thn fun _ η1 => .nx ρ η1
theorem s_exp {e : Expr} {pos : Pos} {f : FE} (he : PE X e (tE X.mg T E f)) (hs : swapsWith e none pos.line X.env = pure false := by rfl) : PS X (.Expr e pos) (tS X.mg T E (sExp f)) :=
  PS.imp (ps_expr he hs) fun Dn σ H ⟨ρ, η, ι, av, s, t, h⟩ => bindS s t h fun v d η₁ ι₁ H₁ e r t1 x1 s1 h1 => h1 σ H₁ ι₁ s1 t1 (.refl _ _)
end
end Dn
set_option Elab.async false
set_option linter.all false
set_option maxRecDepth 100000
/-! Dn, 7: what is walked; loops; comprehensions. -/
namespace Dn
open PySem PySem.Spec PyProof.Rows L2

/-! ### values through changes of what is kept apart -/
structure Mv (ι av : List Addr) (H : Hp) (ι' av' : List Addr) (H' : Hp) : Prop where
  pre : ∃ t, ι' = ι ++ t
  keepO : ∀ a o, H a = some o → a ∉ ι → a ∉ av → (∀ ps, o ≠ .tbl ps) → (∀ k, o ≠ .dK k) → (∀ k, o ≠ .dT k) → (∀ u k, o ≠ .frz u (.dT k)) → H' a = some o ∧ a ∉ ι' ∧ a ∉ av'
  keepR : ∀ a o, Rd H a o → a ∉ ι → a ∉ av → (∀ ps, o ≠ .tbl ps) → (∀ u z, o ≠ .frz u z) → Rd H' a o ∧ a ∉ ι' ∧ a ∉ av'
section
variable {mg : Str → Option Value} {ι ι' av av' : List Addr} {H H' : Hp}
theorem Mv.get (x : Mv ι av H ι' av' H') {i : Nat} {a : Addr} (h : ι[i]? = some a) : ι'[i]? = some a := by
  obtain ⟨t, e⟩ := x.pre
  have hi : i < ι.length := (List.getElem?_eq_some_iff.mp h).1
  rw [e, List.getElem?_append_left hi]
  exact h
theorem frz_ne {o : Obj} {xs : List V} (u : Obj) (k : List (List Key × V)) : HO.frz o (.lst xs) ≠ .frz u (.dT k) := fun z => by
  injection z with _ z2
  cases z2
theorem excO_ne {e C dx : Addr} (u : Obj) (k : List (List Key × V)) : ExcO e C dx ≠ .frz u (.dT k) := fun z => by
  unfold ExcO at z
  exact HO.noConfusion z
mutual
theorem Rep.mv (x : Mv ι av H ι' av' H') : ∀ {v : V} {d : D}, Rep mg ι av H v d → Rep mg ι' av' H' v d
  | _, _, .non => .non
  | _, _, .bl b => .bl b
  | _, _, .int i => .int i
  | _, _, .str z => .str z
  | _, _, .tup h n m r => let q := x.keepO _ _ h n m nofun nofun nofun (fun _ _ z => HO.noConfusion z); .tup q.1 q.2.1 q.2.2 (Reps.mv x r)
  | _, _, .lst h n m r => let q := x.keepO _ _ h n m nofun nofun nofun (fun _ _ z => HO.noConfusion z); .lst q.1 q.2.1 q.2.2 (Reps.mv x r)
  | _, _, .dK h l n m r => let q := x.keepR _ _ h n m nofun (fun _ _ z => HO.noConfusion z); .dK q.1 l q.2.1 q.2.2 (Reps.mv x r)
  | _, _, .dT h l n m r => let q := x.keepR _ _ h n m nofun (fun _ _ z => HO.noConfusion z); .dT q.1 l q.2.1 q.2.2 (Reps.mv x r)
  | _, _, .scr h n m => let q := x.keepO _ _ h n m nofun nofun nofun frz_ne; .scr q.1 q.2.1 q.2.2
  | _, _, .ref h => .ref (x.get h)
  | _, _, .exc c h1 h2 n1 m1 n2 m2 r => let q := x.keepO _ _ h1 n1 m1 nofun nofun nofun excO_ne; let p := x.keepO _ _ h2 n2 m2 nofun nofun nofun (fun _ _ z => HO.noConfusion z); .exc c q.1 p.1 q.2.1 q.2.2 p.2.1 p.2.2 (Rep.mv x r)
theorem Reps.mv (x : Mv ι av H ι' av' H') : ∀ {vs : List V} {ds : List D}, Reps mg ι av H vs ds → Reps mg ι' av' H' vs ds
  | _, _, .nil => .nil
  | _, _, .cons r t => .cons (Rep.mv x r) (Reps.mv x t)
end
theorem Mv.of (x : Ext ι H ι' H') (hv : ∀ a ∈ av', a ∈ av ∨ H a = none) : Mv ι av H ι' av' H' := by
  refine ⟨x.pre, fun a o h n m k _ _ _ => ?_, fun a o h n m k _ => ?_⟩
  · obtain ⟨h1, h2⟩ := x.keep a o h n k
    refine ⟨h1, h2, fun z => ?_⟩
    rcases hv a z with q | q
    · exact m q
    · rw [h] at q; cases q
  · obtain ⟨h1, h2⟩ := x.rd h n k
    refine ⟨h1, h2, fun z => ?_⟩
    rcases hv a z with q | q
    · exact m q
    · rcases h with h | ⟨u, h⟩ <;> rw [h] at q <;> cases q
/-- fewer are kept apart -/
theorem Mv.less (hv : ∀ a ∈ av', a ∈ av) : Mv ι av H ι av' H :=
  ⟨⟨[], by simp⟩, fun a o h n m _ _ _ _ => ⟨h, n, fun z => m (hv a z)⟩, fun a o h n m _ _ => ⟨h, n, fun z => m (hv a z)⟩⟩
/-- what is kept apart changes -/
theorem Mv.apart {p : Addr} {o : HO} (hp : p ∈ av) : Mv ι av H ι av (upd H p o) :=
  ⟨⟨[], by simp⟩, fun a u h n m _ _ _ _ => ⟨by rw [upd_ne fun z => m (by rw [z]; exact hp)]; exact h, n, m⟩, fun a u h n m _ _ => ⟨by
    rcases h with h | ⟨w, h⟩
    · exact .inl (by rw [upd_ne fun z => m (by rw [z]; exact hp)]; exact h)
    · exact .inr ⟨w, by rw [upd_ne fun z => m (by rw [z]; exact hp)]; exact h⟩, n, m⟩⟩
theorem MRep.mv {a : Addr} {m : M} (x : Mv ι av H ι' av' H') (e : H' a = H a) (r : MRep mg ι av H a m) : MRep mg ι' av' H' a m := by
  cases r with
  | l h q => exact .l (e.trans h) (q.mv x)
  | dK h l q => exact .dK (e.trans h) l (q.mv x)
  | dT h l q => exact .dT (e.trans h) l (q.mv x)
theorem StRep.mv {T : List (Addr × Str)} {η : Store} (x : Mv ι av H ι av' H') (e : ∀ a ∈ ι, H' a = H a) (hv : ∀ a ∈ av', (∃ xs, H' a = some (.lst xs)) ∧ a ∉ ι) (tb : LamX.Tabs T H') (t : StRep mg T ι av H η) : StRep mg T ι av' H' η :=
  ⟨t.nd, t.len, fun i a m h1 h2 => (t.at_ i a m h1 h2).mv x (e a (List.mem_of_getElem? h1)), hv, tb⟩
theorem tabs_upd {T : List (Addr × Str)} {a : Addr} {u o : HO} (e : H a = some u) (h1 : ∀ ps, u ≠ .tbl ps) (h2 : ∀ φ, u ≠ .ext φ) (tb : LamX.Tabs T H) : LamX.Tabs T (upd H a o) := by
  have nt : ∀ b w, H b = some w → ((∃ ps, w = .tbl ps) ∨ ∃ φ, w = .ext φ) → b ≠ a := fun b w z k y => by
    rw [y, e] at z
    cases z
    rcases k with ⟨ps, q⟩ | ⟨φ, q⟩
    · exact h1 ps q
    · exact h2 φ q
  intro q hq
  obtain ⟨ps, e1, e2, e3⟩ := tb q hq
  refine ⟨ps, by rw [upd_ne (nt _ _ e1 (.inl ⟨_, rfl⟩))]; exact e1, e2, fun pos cv hc => ?_⟩
  obtain ⟨c, e4, e5⟩ := e3 pos cv hc
  exact ⟨c, e4, by rw [upd_ne (nt _ _ e5 (.inr ⟨_, rfl⟩))]; exact e5⟩
end

/-! ### what is walked -/
/-- at turn i: what comes (none: the end), if it can be told -/
structure ItD where
  item : Nat → Store → Option (Option D)
abbrev FI := Ev → Store → R ItD
def ItOk (mg : Str → Option Value) (T : List (Addr × Str)) (ι av : List Addr) (H : Hp) (J : It) (I : ItD) : Prop :=
  ∀ (k : Nat) (ι' av' : List Addr) (H' : Hp) (η' : Store), Ext ι H ι' H' → (∀ a ∈ av', a ∈ av ∨ H a = none) → StRep mg T ι' av' H' η' → match I.item k η' with
    | none => True
    | some none => J.stop k H'
    | some (some d) => J.go k H' ∧ ∀ x H'', J.yld k H' x H'' → Rep mg ι' av' H'' x d ∧ StRep mg T ι' av' H'' η' ∧ Ext ι' H' ι' H''
def rlI (mg : Str → Option Value) (T : List (Addr × Str)) : Rl It ItD := fun ι av H J I => ItOk mg T ι av H J I
/-- a list that nobody changes -/
def itF (xs : List D) : ItD := ⟨fun k _ => some xs[k]?⟩
/-- a list of the store -/
def itR (i : Nat) : ItD := ⟨fun k η => match η[i]? with
  | some (.l xs) => some xs[k]?
  | _ => none⟩
def itOf (η : Store) (d : D) : Option ItD := match d with
  | .tup xs => some (itF xs)
  | .lst xs => some (itF xs)
  | .scr xs => some (itF (xs.map .int))
  | .ref i => match η[i]? with
    | some (.l _) => some (itR i)
    | _ => none
  | _ => none
section
variable {mg : Str → Option Value} {T : List (Addr × Str)} {ι av : List Addr} {H : Hp}
theorem itok_list {K : PySem.W.Frag} {a : Addr} {vs : List V} {ds : List D} {o : HO} (e : H a = some o) (ho : o = .lst vs ∨ ∃ u, o = .frz u (.lst vs)) (n : a ∉ ι) (m : a ∉ av) (q : Reps mg ι av H vs ds) : ItOk mg T ι av H (Itl K a) (itF ds) := by
  intro k ι' av' H' η' x hv t
  have qq := q.mv (Mv.of x hv)
  have sq : SqL K H' a vs := by
    rcases ho with rfl | ⟨u, rfl⟩
    · exact SqL.of (x.keep a _ e n nofun).1
    · exact .inl (.inr ⟨u, (x.keep a _ e n nofun).1⟩)
  show match some ds[k]? with | none => True | some none => _ | some (some d) => _
  cases ed : ds[k]? with
  | none => exact ⟨vs, sq, by rw [q.length]; exact List.getElem?_eq_none_iff.mp ed⟩
  | some d =>
    obtain ⟨v, ev, r⟩ := qq.get ed
    refine ⟨⟨vs, v, sq, ev⟩, fun y H'' ⟨eh, hy⟩ => ?_⟩
    subst eh
    have := hy vs sq
    rw [ev] at this
    cases this
    exact ⟨r, t, .refl _ _⟩
theorem itok_tup {K : PySem.W.Frag} {a : Addr} {vs : List V} {ds : List D} (e : H a = some (.tup vs)) (n : a ∉ ι) (m : a ∉ av) (q : Reps mg ι av H vs ds) : ItOk mg T ι av H (Itt K a) (itF ds) := by
  intro k ι' av' H' η' x hv t
  have qq := q.mv (Mv.of x hv)
  have sq : SqT K H' a vs := SqT.of (x.keep a _ e n nofun).1
  show match some ds[k]? with | none => True | some none => _ | some (some d) => _
  cases ed : ds[k]? with
  | none => exact ⟨vs, sq, by rw [q.length]; exact List.getElem?_eq_none_iff.mp ed⟩
  | some d =>
    obtain ⟨v, ev, r⟩ := qq.get ed
    refine ⟨⟨vs, v, sq, ev⟩, fun y H'' ⟨eh, hy⟩ => ?_⟩
    subst eh
    have := hy vs sq
    rw [ev] at this
    cases this
    exact ⟨r, t, .refl _ _⟩
theorem itok_ref {K : PySem.W.Frag} {a : Addr} {i : Nat} (e : ι[i]? = some a) : ItOk mg T ι av H (Itl K a) (itR i) := by
  intro k ι' av' H' η' x hv t
  have e' := x.get e
  obtain ⟨m, em, rm⟩ := t.has e'
  simp only [itR, em]
  cases rm with
  | @l vs ds e1 q =>
    have sq : SqL K H' a vs := SqL.of e1
    show match some ds[k]? with | none => True | some none => _ | some (some d) => _
    cases ed : ds[k]? with
    | none => exact ⟨vs, sq, by rw [q.length]; exact List.getElem?_eq_none_iff.mp ed⟩
    | some d =>
      obtain ⟨v, ev, r⟩ := q.get ed
      refine ⟨⟨vs, v, sq, ev⟩, fun y H'' ⟨eh, hy⟩ => ?_⟩
      subst eh
      have := hy vs sq
      rw [ev] at this
      cases this
      exact ⟨r, t, .refl _ _⟩
  | dK _ _ _ => trivial
  | dT _ _ _ => trivial
/-- lo, lo + c, .. -/
def itN (lo c : Int) (n : Nat) : ItD := itF ((List.range n).map fun i => .int (lo + (i : Nat) * c))
theorem itok_rangeC {lo c : Int} {n : Nat} : ItOk mg T ι av H (Itc lo c n) (itN lo c n) := by
  intro k ι' av' H' η' x hv t
  show match some ((List.range n).map fun i => D.int (lo + (i : Nat) * c))[k]? with | none => True | some none => _ | some (some d) => _
  by_cases hk : k < n
  · rw [List.getElem?_map, List.getElem?_range hk]
    refine ⟨hk, fun y H'' ⟨eh, hy⟩ => ?_⟩
    subst eh hy
    exact ⟨.int _, t, .refl _ _⟩
  · rw [List.getElem?_eq_none (by simp; omega)]
    exact Nat.le_of_not_lt hk
theorem itok_range {lo : Int} {n : Nat} : ItOk mg T ι av H (Itr lo n) (itN lo 1 n) := by
  intro k ι' av' H' η' x hv t
  show match some ((List.range n).map fun i => D.int (lo + (i : Nat) * 1))[k]? with | none => True | some none => _ | some (some d) => _
  by_cases hk : k < n
  · rw [List.getElem?_map, List.getElem?_range hk]
    refine ⟨hk, fun y H'' ⟨eh, hy⟩ => ?_⟩
    subst eh hy
    have e : lo + ((k : Nat) : Int) = lo + (k : Nat) * 1 := by omega
    rw [e]
    exact ⟨.int _, t, .refl _ _⟩
  · rw [List.getElem?_eq_none (by simp; omega)]
    exact Nat.le_of_not_lt hk
/-- pairs -/
def itZ (xs ys : List D) : ItD := itF ((xs.zip ys).map fun p => .tup [p.1, p.2])
theorem zip_get {xs ys : List D} {k : Nat} : ((xs.zip ys).map fun p => D.tup [p.1, p.2])[k]? = match xs[k]?, ys[k]? with
    | some x, some y => some (.tup [x, y])
    | _, _ => none := by
  rw [List.getElem?_map, List.zip, List.getElem?_zipWith]
  cases xs[k]? <;> cases ys[k]? <;> rfl
theorem new_pair {H : Hp} {η : Store} {u w : V} {d d' : D} {p : Addr} (t : StRep mg T ι av H η) (r : Rep mg ι av H u d) (r' : Rep mg ι av H w d') (hp : H p = none) : Rep mg ι av (upd H p (.tup [u, w])) (.ref p) (.tup [d, d']) ∧ StRep mg T ι av (upd H p (.tup [u, w])) η ∧ Ext ι H ι (upd H p (.tup [u, w])) :=
  ⟨new_tup t (.cons r (.cons r' .nil)) hp, t.new hp, Ext.new hp⟩
theorem itok_zipL {K : PySem.W.Frag} {a b : Addr} {vs ws : List V} {ds es : List D} (e : H a = some (.lst vs)) (n : a ∉ ι) (m : a ∉ av) (q : Reps mg ι av H vs ds) (e' : H b = some (.lst ws)) (n' : b ∉ ι) (m' : b ∉ av) (q' : Reps mg ι av H ws es) : ItOk mg T ι av H (Itz K a b) (itZ ds es) := by
  intro k ι' av' H' η' x hv t
  have qq := q.mv (Mv.of x hv)
  have qq' := q'.mv (Mv.of x hv)
  have sq : SqL K H' a vs := SqL.of (x.keep a _ e n nofun).1
  have sq' : SqL K H' b ws := SqL.of (x.keep b _ e' n' nofun).1
  show match some ((ds.zip es).map fun p => D.tup [p.1, p.2])[k]? with | none => True | some none => _ | some (some d) => _
  rw [zip_get]
  cases ed : ds[k]? with
  | none => exact ⟨vs, ws, sq, sq', .inl (by rw [q.length]; exact List.getElem?_eq_none_iff.mp ed)⟩
  | some d =>
    cases ee : es[k]? with
    | none => exact ⟨vs, ws, sq, sq', .inr (by rw [q'.length]; exact List.getElem?_eq_none_iff.mp ee)⟩
    | some d' =>
      obtain ⟨v, ev, r⟩ := qq.get ed
      obtain ⟨w, ew, r'⟩ := qq'.get ee
      refine ⟨⟨vs, ws, v, w, sq, sq', ev, ew⟩, fun y H'' ⟨p, v1, w1, ey, hp, eh, h1, h2⟩ => ?_⟩
      subst eh ey
      have z1 := h1 vs sq
      have z2 := h2 ws sq'
      rw [ev] at z1
      rw [ew] at z2
      cases z1
      cases z2
      exact new_pair t r r' hp
theorem itok_zipT {K : PySem.W.Frag} {a b : Addr} {vs ws : List V} {ds es : List D} (e : H a = some (.tup vs)) (n : a ∉ ι) (m : a ∉ av) (q : Reps mg ι av H vs ds) (e' : H b = some (.tup ws)) (n' : b ∉ ι) (m' : b ∉ av) (q' : Reps mg ι av H ws es) : ItOk mg T ι av H (RZ.ItzT K a b) (itZ ds es) := by
  intro k ι' av' H' η' x hv t
  have qq := q.mv (Mv.of x hv)
  have qq' := q'.mv (Mv.of x hv)
  have sq : SqT K H' a vs := SqT.of (x.keep a _ e n nofun).1
  have sq' : SqT K H' b ws := SqT.of (x.keep b _ e' n' nofun).1
  show match some ((ds.zip es).map fun p => D.tup [p.1, p.2])[k]? with | none => True | some none => _ | some (some d) => _
  rw [zip_get]
  cases ed : ds[k]? with
  | none => exact ⟨vs, ws, sq, sq', .inl (by rw [q.length]; exact List.getElem?_eq_none_iff.mp ed)⟩
  | some d =>
    cases ee : es[k]? with
    | none => exact ⟨vs, ws, sq, sq', .inr (by rw [q'.length]; exact List.getElem?_eq_none_iff.mp ee)⟩
    | some d' =>
      obtain ⟨v, ev, r⟩ := qq.get ed
      obtain ⟨w, ew, r'⟩ := qq'.get ee
      refine ⟨⟨vs, ws, v, w, sq, sq', ev, ew⟩, fun y H'' ⟨p, v1, w1, ey, hp, eh, h1, h2⟩ => ?_⟩
      subst eh ey
      have z1 := h1 vs sq
      have z2 := h2 ws sq'
      rw [ev] at z1
      rw [ew] at z2
      cases z1
      cases z2
      exact new_pair t r r' hp
end
section
variable {X : Cx} {T : List (Addr × Str)} {E : XK} {tg : Expr}
theorem PI.imp {e : Expr} {t t' : TI} (h : PI X tg e t) (k : ∀ σ H Q, t' σ H Q → t σ H Q) : PI X tg e t' := ⟨fun pins s σ H Q I w => h.run pins s σ H Q I (k σ H Q w)⟩
abbrev tI (mg : Str → Option Value) (T : List (Addr × Str)) (E : XK) (f : FI) : TI := tG mg T (rlI mg T) E f
/-- a list or a tuple -/
def iAny (K : PySem.W.Frag) (tl : TE) : TI := fun σ H R => tl σ H fun x H1 => ∃ a, x = .ref a ∧ (((∃ xs, SqL K H1 a xs) ∧ R (Itl K a) H1) ∨ ((∃ xs, SqT K H1 a xs) ∧ R (Itt K a) H1))
theorem pi_any {l : Expr} {tl : TE} (hl : PE X l tl) : PI X tg l (iAny X.K tl) := by
  refine ⟨fun pins s σ H R I h => ?_⟩
  refine thn (hl.run pins s σ H _ I h) fun v s1 ⟨x, H1, I1, r1, q1⟩ => ?_
  obtain ⟨a, e, ⟨⟨xs, hq⟩, q⟩ | ⟨⟨xs, hq⟩, q⟩⟩ := q1
  · subst e
    cases r1
    obtain ⟨its, rv, p, hz⟩ := I1.list hq
    refine wpAny_pyIter_list p.isList ?_
    refine ⟨s1.heap.objs.size, [s1.heap.objs.size], _, _, H1, rfl, I1.kept (t' := s1.toks) fun b o e => Heap.get?_push_of_some _ e, turn_list a _, ⟨_, Heap.get?_push_size _ rfl, rfl, rfl⟩, fun b hb => ?_, q⟩
    have e : b = s1.heap.objs.size := by simpa using hb
    subst e
    exact I1.fpOk (Nat.le_refl _) (I1.hok.fresh (Nat.le_refl _))
  · subst e
    cases r1
    obtain ⟨its, rv, p, hz⟩ := I1.tuple hq
    refine wpAny_pyIter_tuple (show s1.heap.IsTuple a its.toArray from p) ?_
    refine ⟨s1.heap.objs.size, [s1.heap.objs.size], _, _, H1, rfl, I1.kept (t' := s1.toks) fun b o e => Heap.get?_push_of_some _ e, turn_tuple a _, ⟨_, Heap.get?_push_size _ rfl, rfl, rfl⟩, fun b hb => ?_, q⟩
    have e : b = s1.heap.objs.size := by simpa using hb
    subst e
    exact I1.fpOk (Nat.le_refl _) (I1.hok.fresh (Nat.le_refl _))
def fIt (f : FE) : FI := fun ρ η => (f ρ η).bind fun d η1 => R.of η1 (itOf η1 d)
theorem i_any {l : Expr} {f : FE} (hl : PE X l (tE X.mg T E f)) : PI X tg l (tI X.mg T E (fIt f)) :=
  PI.imp (pi_any hl) fun σ H Q ⟨ρ, η, ι, av, s, t, h⟩ => bindG s t h fun v d η₁ ι₁ H₁ e r t1 x1 s1 h1 => by
    cases eo : itOf η₁ d with
    | none => rw [eo] at h1; exact h1.elim
    | some I =>
      rw [eo] at h1
      unfold itOf at eo
      split at eo
      · cases eo
        cases r with
        | tup e1 n m q => exact ⟨_, rfl, .inr ⟨⟨_, SqT.of e1⟩, h1 _ H₁ ι₁ (itok_tup e1 n m q) t1 (.refl _ _)⟩⟩
      · cases eo
        cases r with
        | lst e1 n m q => exact ⟨_, rfl, .inl ⟨⟨_, SqL.of e1⟩, h1 _ H₁ ι₁ (itok_list e1 (.inl rfl) n m q) t1 (.refl _ _)⟩⟩
      · cases eo
        cases r with
        | scr e1 n m => exact ⟨_, rfl, .inl ⟨⟨_, .inl (.inr ⟨_, e1⟩)⟩, h1 _ H₁ ι₁ (itok_list e1 (.inr ⟨_, rfl⟩) n m (.ints _)) t1 (.refl _ _)⟩⟩
      · cases r with
        | ref e1 =>
          obtain ⟨m, em, rm⟩ := t1.has e1
          rw [em] at eo
          cases rm with
          | l e2 q =>
            injection eo with eo
            subst eo
            exact ⟨_, rfl, .inl ⟨⟨_, SqL.of e2⟩, h1 _ H₁ ι₁ (itok_ref e1) t1 (.refl _ _)⟩⟩
          | dK _ _ _ => simp at eo
          | dT _ _ _ => simp at eo
      · cases eo
/-- small enough for a range -/
def rgS (i : Int) : Bool := decide (-(2 ^ 62) ≤ i ∧ i < 2 ^ 62)
theorem Reps.three {mg : Str → Option Value} {ι av : List Addr} {H : Hp} {vs : List V} {d e f : D} (r : Reps mg ι av H vs [d, e, f]) : ∃ v u w, vs = [v, u, w] ∧ Rep mg ι av H v d ∧ Rep mg ι av H u e ∧ Rep mg ι av H w f := by
  cases r with
  | cons r t =>
    obtain ⟨u, w, rfl, q, q'⟩ := t.two
    exact ⟨_, u, w, rfl, r, q, q'⟩
def itRg1 (ds : List D) : Option ItD := match ds with
  | [.int j] => if rgS j then some (itN 0 1 j.toNat) else none
  | _ => none
def itRg2 (ds : List D) : Option ItD := match ds with
  | [.int i, .int j] => if rgS i && rgS j then some (itN i 1 (j - i).toNat) else none
  | _ => none
def itRg3 (ds : List D) : Option ItD := match ds with
  | [.int i, .int j, .int c] => if rgS i && rgS j && c == -1 then some (itN i (-1) (i - j).toNat) else none
  | _ => none
def fRg (o : List D → Option ItD) (g : FA) : FI := fun ρ η => (g ρ η).bind fun ds η1 => R.of η1 (o ds)
theorem i_range1 {a : Expr} {g : FA} {p pos : Pos} (hg : Gl X "range") (hm : X.mg "range" = none) (ha : PA X [a] (tA X.mg T E g)) (hs : starEach [a] X.env = [(false, eval a X.env)] := by rfl) : PI X tg (.Call (.Name "range" p) [a] [] pos) (tI X.mg T E (fRg itRg1 g)) :=
  PI.imp (pi_range1 hg hm ha hs) fun σ H Q ⟨ρ, η, ι, av, s, t, h⟩ => bindG s t h fun vs ds η₁ ι₁ H₁ e r t1 x1 s1 h1 => by
    cases eo : itRg1 ds with
    | none => rw [eo] at h1; exact h1.elim
    | some I =>
      rw [eo] at h1
      unfold itRg1 at eo
      split at eo
      · split at eo
        · rename_i hj
          cases eo
          obtain ⟨v, ev, rv⟩ := r.one
          cases rv
          have hj := of_decide_eq_true hj
          exact ⟨_, ev, hj.1, hj.2, h1 _ H₁ ι₁ itok_range t1 (.refl _ _)⟩
        · cases eo
      · cases eo
theorem i_range2 {a b : Expr} {g : FA} {p pos : Pos} (hg : Gl X "range") (hm : X.mg "range" = none) (ha : PA X [a, b] (tA X.mg T E g)) (hs : starEach [a, b] X.env = [(false, eval a X.env), (false, eval b X.env)] := by rfl) (hs2 : starEach [b] X.env = [(false, eval b X.env)] := by rfl) : PI X tg (.Call (.Name "range" p) [a, b] [] pos) (tI X.mg T E (fRg itRg2 g)) :=
  PI.imp (pi_range2 hg hm ha hs hs2) fun σ H Q ⟨ρ, η, ι, av, s, t, h⟩ => bindG s t h fun vs ds η₁ ι₁ H₁ e r t1 x1 s1 h1 => by
    cases eo : itRg2 ds with
    | none => rw [eo] at h1; exact h1.elim
    | some I =>
      rw [eo] at h1
      unfold itRg2 at eo
      split at eo
      · split at eo
        · rename_i hj
          cases eo
          obtain ⟨v, w, ev, rv, rw'⟩ := r.two
          cases rv
          cases rw'
          simp only [Bool.and_eq_true] at hj
          have h3 := of_decide_eq_true hj.1
          have h4 := of_decide_eq_true hj.2
          exact ⟨_, _, ev, ⟨h3.1, h3.2, h4.1, h4.2⟩, h1 _ H₁ ι₁ itok_range t1 (.refl _ _)⟩
        · cases eo
      · cases eo
theorem i_range3 {a b c : Expr} {g : FA} {p pos : Pos} (hg : Gl X "range") (hm : X.mg "range" = none) (ha : PA X [a, b, c] (tA X.mg T E g)) (hs : starEach [a, b, c] X.env = (false, eval a X.env) :: starEach [b, c] X.env := by rfl) (hpl : (backTo pos (starEach [b, c] X.env)).any (·.1) = false := by rfl) : PI X tg (.Call (.Name "range" p) [a, b, c] [] pos) (tI X.mg T E (fRg itRg3 g)) :=
  PI.imp (pi_range3 hg hm ha hs hpl) fun σ H Q ⟨ρ, η, ι, av, s, t, h⟩ => bindG s t h fun vs ds η₁ ι₁ H₁ e r t1 x1 s1 h1 => by
    cases eo : itRg3 ds with
    | none => rw [eo] at h1; exact h1.elim
    | some I =>
      rw [eo] at h1
      unfold itRg3 at eo
      split at eo
      · split at eo
        · rename_i hj
          cases eo
          obtain ⟨v, w, u, ev, rv, rw', ru⟩ := r.three
          cases rv
          cases rw'
          cases ru
          simp only [Bool.and_eq_true, beq_iff_eq] at hj
          have h3 := of_decide_eq_true hj.1.1
          have h4 := of_decide_eq_true hj.1.2
          obtain rfl := hj.2
          exact ⟨_, _, _, _, ev, RgC.neg h3.1 h3.2 h4.1 h4.2, h1 _ H₁ ι₁ itok_rangeC t1 (.refl _ _)⟩
        · cases eo
      · cases eo
def itZip (η : Store) (ds : List D) : Option ItD := match ds with
  | [.tup xs, .tup ys] => some (itZ xs ys)
  | [.lst xs, .lst ys] => some (itZ xs ys)
  | _ => none
def fZip (g : FA) : FI := fun ρ η => (g ρ η).bind fun ds η1 => R.of η1 (itZip η1 ds)
theorem i_zip {e e2 : Expr} {g : FA} {p pos tpos : Pos} {elts : List Expr} {kk : Nat} (hg : Gl X "zip") (hm : X.mg "zip" = none) (ha : PA X [e, e2] (tA X.mg T E g))
    (hs : starEach [e, e2] X.env = (false, eval e X.env) :: starEach [e2] X.env := by rfl) (hpl : (backTo pos (starEach [e2] X.env)).any (·.1) = false := by rfl) : PI X (.Tuple elts kk tpos) (.Call (.Name "zip" p) [e, e2] [] pos) (tI X.mg T E (fZip g)) :=
  PI.imp (RZ.pi_zipA hg hm ha hs hpl) fun σ H Q ⟨ρ, η, ι, av, s, t, h⟩ => bindG s t h fun vs ds η₁ ι₁ H₁ e r t1 x1 s1 h1 => by
    cases eo : itZip η₁ ds with
    | none => rw [eo] at h1; exact h1.elim
    | some I =>
      rw [eo] at h1
      unfold itZip at eo
      split at eo
      · cases eo
        obtain ⟨v, w, ev, rv, rw'⟩ := r.two
        cases rv with
        | tup e1 n m q =>
          cases rw' with
          | tup e2 n2 m2 q2 => exact ⟨_, _, _, _, ev, .inr ⟨SqT.of e1, SqT.of e2, h1 _ H₁ ι₁ (itok_zipT e1 n m q e2 n2 m2 q2) t1 (.refl _ _)⟩⟩
      · cases eo
        obtain ⟨v, w, ev, rv, rw'⟩ := r.two
        cases rv with
        | lst e1 n m q =>
          cases rw' with
          | lst e2 n2 m2 q2 => exact ⟨_, _, _, _, ev, .inl ⟨SqL.of e1, SqL.of e2, h1 _ H₁ ι₁ (itok_zipL e1 n m q e2 n2 m2 q2) t1 (.refl _ _)⟩⟩
      · cases eo

/-! ### loops -/
/-- enough turns -/
noncomputable def limS (F : Nat → RS) : RS := open Classical in if h : ∃ n, F n ≠ .stk then F (Classical.choose h) else .stk
noncomputable def limR {α : Type} (F : Nat → R α) : R α := open Classical in if h : ∃ n, F n ≠ .stk then F (Classical.choose h) else .stk
theorem limS_is {F : Nat → RS} {P : RS → Prop} (h : P (limS F)) (hs : ¬ P .stk) : ∃ n, P (F n) := by
  unfold limS at h
  split at h
  · exact ⟨_, h⟩
  · exact (hs h).elim
theorem limR_is {α : Type} {F : Nat → R α} {P : R α → Prop} (h : P (limR F)) (hs : ¬ P .stk) : ∃ n, P (F n) := by
  unfold limR at h
  split at h
  · exact ⟨_, h⟩
  · exact (hs h).elim
theorem limS_eq {F : Nat → RS} (mono : ∀ n, F n ≠ .stk → F (n + 1) = F n) {n : Nat} {r : RS} (h : F n = r) (hr : r ≠ .stk) : limS F = r := by
  have up : ∀ n k, F n ≠ .stk → F (n + k) = F n := fun n k hn => by
    induction k with
    | zero => rfl
    | succ k ih => rw [← Nat.add_assoc, mono _ (by rw [ih]; exact hn), ih]
  unfold limS
  have ex : ∃ n, F n ≠ .stk := ⟨n, by rw [h]; exact hr⟩
  rw [dif_pos ex]
  have hc := Classical.choose_spec ex
  generalize Classical.choose ex = m at hc ⊢
  rw [← up m n hc, Nat.add_comm, up n m (by rw [h]; exact hr), h]
theorem limR_eq {α : Type} {F : Nat → R α} (mono : ∀ n, F n ≠ .stk → F (n + 1) = F n) {n : Nat} {r : R α} (h : F n = r) (hr : r ≠ .stk) : limR F = r := by
  have up : ∀ n k, F n ≠ .stk → F (n + k) = F n := fun n k hn => by
    induction k with
    | zero => rfl
    | succ k ih => rw [← Nat.add_assoc, mono _ (by rw [ih]; exact hn), ih]
  unfold limR
  have ex : ∃ n, F n ≠ .stk := ⟨n, by rw [h]; exact hr⟩
  rw [dif_pos ex]
  have hc := Classical.choose_spec ex
  generalize Classical.choose ex = m at hc ⊢
  rw [← up m n hc, Nat.add_comm, up n m (by rw [h]; exact hr), h]
/-- behind a loop's body: on, or out -/
def onS (r : RS) (k : Ev → Store → RS) : RS := match r with
  | .nx ρ η => k ρ η
  | .ct ρ η => k ρ η
  | .bk ρ η => .nx ρ η
  | r => r
def forN (J : ItD) (g : FG) (b : FS) : Nat → Nat → Ev → Store → RS
  | 0, _, _, _ => .stk
  | n + 1, k, ρ, η => match J.item k η with
    | none => .stk
    | some none => .nx ρ η
    | some (some d) => (g d ρ η).thn fun ρ1 η1 => onS (b ρ1 η1) fun ρ2 η2 => forN J g b n (k + 1) ρ2 η2
noncomputable def sFor (it : FI) (g : FG) (b : FS) : FS := fun ρ η => (it ρ η).thn fun J η1 => limS fun n => forN J g b n 0 ρ η1
theorem onS_post {mg : Str → Option Value} {ι av : List Addr} {H : Hp} {Dn : Ends} {r : RS} {k : Ev → Store → RS} {N : L2.St → Hp → Prop} (h : PostS mg T ι av H E Dn (onS r k))
    (hN : ∀ ρ η σ' H' ι', Sim mg ι' av ρ σ' H' → StRep mg T ι' av H' η → Ext ι H ι' H' → PostS mg T ι' av H' E Dn (k ρ η) → N σ' H') : PostS mg T ι av H E { Dn with nx := N, ct := N, bk := Dn.nx } r := by
  cases r with
  | nx ρ η => exact fun σ' H' ι' s t x => hN ρ η σ' H' ι' s t x (PostS.mono x h)
  | ct ρ η => exact fun σ' H' ι' s t x => hN ρ η σ' H' ι' s t x (PostS.mono x h)
  | bk ρ η => exact h
  | rt d η => exact h
  | rse c d η => exact h
  | stk => exact h
/-- the turns of a loop by the loop's function -/
theorem for_run {mg : Str → Option Value} {ι₁ av : List Addr} {H₁ : Hp} {J : It} {I : ItD} {g : FG} {b : FS} {sl : List Nat} {Dn : Ends} {ρ : Ev} {η₁ : Store} {σ : L2.St} {n0 : Nat} (r : ItOk mg T ι₁ av H₁ J I) (s1 : Sim mg ι₁ av ρ σ H₁) (t1 : StRep mg T ι₁ av H₁ η₁) (h1 : PostS mg T ι₁ av H₁ E Dn (forN I g b n0 0 ρ η₁)) :
    ∃ W : Nat → Nat → L2.St → Hp → Prop, (∃ m, W 0 m σ H₁) ∧ ∀ i m σ H, W i m σ H →
      (J.stop i H ∧ Dn.nx σ H) ∨ (J.go i H ∧ ∃ N : L2.St → Hp → Prop, (∀ σ' H', N σ' H' → ∃ m', m' < m ∧ W (i + 1) m' σ' H') ∧ ∀ x H', J.yld i H x H' → tTg mg T sl E g x σ H' fun σ2 H2 => tS mg T E b { Dn with nx := N, ct := N, bk := Dn.nx } σ2 H2) := by
  refine ⟨fun i m σ' H' => ∃ ρ' η' ι', Sim mg ι' av ρ' σ' H' ∧ StRep mg T ι' av H' η' ∧ Ext ι₁ H₁ ι' H' ∧ PostS mg T ι' av H' E Dn (forN I g b m i ρ' η'), ⟨n0, ρ, η₁, ι₁, s1, t1, .refl _ _, h1⟩, ?_⟩
  rintro i m σ' H' ⟨ρ', η', ι', s', t', x', w⟩
  cases m with
  | zero => exact w.elim
  | succ m =>
    unfold forN at w
    have hit := r i ι' av H' η' x' (fun a z => .inl z) t'
    cases ei : I.item i η' with
    | none => rw [ei] at w; exact w.elim
    | some o =>
      rw [ei] at w hit
      cases o with
      | none => exact .inl ⟨hit, w σ' H' ι' s' t' (.refl _ _)⟩
      | some d =>
        refine .inr ⟨hit.1, fun σ' H' => ∃ ρ' η' ι', Sim mg ι' av ρ' σ' H' ∧ StRep mg T ι' av H' η' ∧ Ext ι₁ H₁ ι' H' ∧ PostS mg T ι' av H' E Dn (forN I g b m (i + 1) ρ' η'), fun σ2 H2 q => ⟨m, Nat.lt_succ_self _, q⟩, fun y H2 hy => ?_⟩
        obtain ⟨rd, t2, x2⟩ := hit.2 y H2 hy
        refine ⟨ρ', η', ι', av, d, s'.ext x2, t2, rd, ?_⟩
        have w2 := PostS.mono x2 w
        dsimp only at w2
        cases eg : g d ρ' η' with
        | stk => rw [eg] at w2; exact w2.elim
        | rse c d' η'' => rw [eg] at w2; exact w2
        | ok ρ3 η3 =>
          rw [eg] at w2
          intro σ3 H3 ι3 s3 t3 x3 _
          exact ⟨ρ3, η3, ι3, av, s3, t3, onS_post (PostS.mono x3 w2) fun ρ4 η4 σ4 H4 ι4 s4 t4 x4 w4 => ⟨ρ4, η4, ι4, s4, t4, ((x'.trans x2).trans x3).trans x4, w4⟩⟩
theorem s_for {iter : Expr} {body : List Stmt} {it : FI} {g : FG} {b : FS} {sl : List Nat} {pos : Pos} (hp : PassesOwn (model X.prog X.w) X.A X.env X.xe) (hc : X.calm = true) (hi : PI X tg iter (tI X.mg T E it)) (hg : PG X tg (tTg X.mg T sl E g)) (hb : PSs X body (tS X.mg T E b))
    (hs : ∀ x, foldedSetIterable iter X.env x = pure x := by intro _; rfl) : PS X (.For tg iter body [] pos) (tS X.mg T E (sFor it g b)) :=
  PS.imp (ps_for hp hc hi hg hb hs) fun Dn σ H ⟨ρ, η, ι, av, s, t, h⟩ => bindS s t h fun J I η₁ ι₁ H₁ e r t1 x1 s1 h1 => by
    obtain ⟨n0, h1⟩ := limS_is (P := fun r => PostS X.mg T ι₁ av H₁ E Dn r) h1 id
    exact for_run r s1 t1 h1
def whN (c : FT) (b : FS) : Nat → Ev → Store → RS
  | 0, _, _ => .stk
  | n + 1, ρ, η => (c ρ η).thn fun y η1 => if y then onS (b ρ η1) fun ρ2 η2 => whN c b n ρ2 η2 else .nx ρ η1
noncomputable def sWh (c : FT) (b : FS) : FS := fun ρ η => limS fun n => whN c b n ρ η
theorem s_while {c : Expr} {body : List Stmt} {f : FT} {b : FS} {pos : Pos} (hp : PassesOwn (model X.prog X.w) X.A X.env X.xe) (hc : PT X c (tT X.mg T E f)) (hb : PSs X body (tS X.mg T E b)) : PS X (.While c body [] pos) (tS X.mg T E (sWh f b)) :=
  PS.imp (ps_while hp hc hb) fun Dn σ H ⟨ρ, η, ι, av, s, t, h⟩ => by
    obtain ⟨n0, h1⟩ := limS_is (P := fun r => PostS X.mg T ι av H E Dn r) h id
    refine ⟨fun m σ' H' => ∃ ρ' η' ι', Sim X.mg ι' av ρ' σ' H' ∧ StRep X.mg T ι' av H' η' ∧ PostS X.mg T ι' av H' E Dn (whN f b m ρ' η'), ⟨n0, ρ, η, ι, s, t, h1⟩, ?_⟩
    rintro m σ' H' ⟨ρ', η', ι', s', t', w⟩
    cases m with
    | zero => exact w.elim
    | succ m =>
      unfold whN at w
      refine bindS s' t' w fun k y η₁ ι₁ H₁ e r t1 x1 s1 h1 => ?_
      obtain rfl : k = y := r
      cases k with
      | false => exact h1 σ' H₁ ι₁ s1 t1 (.refl _ _)
      | true =>
        rw [if_pos rfl]
        refine ⟨fun σ' H' => ∃ ρ' η' ι', Sim X.mg ι' av ρ' σ' H' ∧ StRep X.mg T ι' av H' η' ∧ PostS X.mg T ι' av H' E Dn (whN f b m ρ' η'), fun σ2 H2 q => ⟨m, Nat.lt_succ_self _, q⟩, ρ', η₁, ι₁, av, s1, t1, onS_post h1 fun ρ4 η4 σ4 H4 ι4 s4 t4 x4 w4 => ⟨ρ4, η4, ι4, s4, t4, w4⟩⟩
end
end Dn
set_option Elab.async false
set_option linter.all false
set_option maxRecDepth 100000
/-! Dn, 8: list comprehensions. -/
namespace Dn
open PySem PySem.Spec PyProof.Rows L2

/-- no error may come -/
def E0 : XK := fun _ _ _ => False
def R.bindN {α β : Type} (r : R α) (k : α → Store → R β) : R β := match r with
  | .ok a η => k a η
  | _ => .stk
def wipeD (ρ : Ev) : List Nat → Ev
  | [] => ρ
  | v :: vs => (wipeD ρ vs).set v none
theorem wipeD_length (ρ : Ev) : ∀ vs : List Nat, (wipeD ρ vs).length = ρ.length
  | [] => rfl
  | v :: vs => by unfold wipeD; rw [List.length_set, wipeD_length ρ vs]
theorem wipeD_some {ρ : Ev} {i : Nat} {d : D} : ∀ {vs : List Nat}, (wipeD ρ vs)[i]? = some (some d) → ρ[i]? = some (some d) ∧ i ∉ vs
  | [], h => ⟨h, by simp⟩
  | v :: vs, h => by
    unfold wipeD at h
    by_cases hi : v = i
    · subst hi
      by_cases hv : v < (wipeD ρ vs).length
      · rw [List.getElem?_set_self hv] at h; cases h
      · rw [List.getElem?_eq_none (by simpa using hv)] at h; cases h
    · rw [List.getElem?_set_ne hi] at h
      obtain ⟨h1, h2⟩ := wipeD_some h
      exact ⟨h1, by simp only [List.mem_cons, not_or]; exact ⟨fun e => hi e.symm, h2⟩⟩
theorem Sim.wipe {mg : Str → Option Value} {ι av : List Addr} {ρ : Ev} {σ : L2.St} {H : Hp} (s : Sim mg ι av ρ σ H) (vs : List Nat) : Sim mg ι av (wipeD ρ vs) (wipe σ vs) H := by
  refine ⟨by rw [wipe_length, wipeD_length]; exact s.len, fun i d h => ?_⟩
  obtain ⟨h1, h2⟩ := wipeD_some h
  obtain ⟨v, e, r⟩ := s.at_ i d h1
  exact ⟨v, by rw [wipe_at, if_neg h2]; exact e, r⟩
theorem Sim.mv {mg : Str → Option Value} {ι ι' av av' : List Addr} {H H' : Hp} {ρ : Ev} {σ : L2.St} (s : Sim mg ι av ρ σ H) (x : Mv ι av H ι' av' H') : Sim mg ι' av' ρ σ H' :=
  ⟨s.len, fun i d h => let ⟨v, e, r⟩ := s.at_ i d h; ⟨v, e, r.mv x⟩⟩
def lcN (J : ItD) (g : FG) (tt : FT) (te : FE) (ρ : Ev) : Nat → Nat → List D → Store → R (List D)
  | 0, _, _, _ => .stk
  | n + 1, k, acc, η => match J.item k η with
    | none => .stk
    | some none => .ok acc η
    | some (some d) => (g d ρ η).bindN fun ρ2 η2 => (tt ρ2 η2).bindN fun b η3 => if b then (te ρ2 η3).bindN fun y η4 => if acc.length < sizeLine then lcN J g tt te ρ n (k + 1) (acc ++ [y]) η4 else .stk else lcN J g tt te ρ n (k + 1) acc η3
noncomputable def fLc (it : FI) (g : FG) (tt : FT) (te : FE) (vs : List Nat) : FE := fun ρ η => (it ρ η).bind fun J η1 => (limR fun n => lcN J g tt te (wipeD ρ vs) n 0 [] η1).bind fun xs η2 => .ok (.lst xs) η2
section
variable {mg : Str → Option Value} {T : List (Addr × Str)} {E : XK}
theorem okN {β α : Type} {rl : Rl β α} {ρ : Ev} {η : Store} {ι av : List Addr} {σ : L2.St} {H : Hp} {f : Ev → Store → R α} {a : α} {η₁ : Store} {Qm : β → Hp → Prop} (s : Sim mg ι av ρ σ H) (t : StRep mg T ι av H η) (e : f ρ η = .ok a η₁)
    (hk : ∀ b ι₁ H₁, rl ι₁ av H₁ b a → StRep mg T ι₁ av H₁ η₁ → Ext ι H ι₁ H₁ → Sim mg ι₁ av ρ σ H₁ → Qm b H₁) : tG mg T rl E f σ H Qm := by
  refine ⟨ρ, η, ι, av, s, t, ?_⟩
  rw [e]
  exact fun b H' ι' r u x => hk b ι' H' r u x (s.ext x)
/-- the list under way -/
structure Lc (mg : Str → Option Value) (T : List (Addr × Str)) (ι₁ : List Addr) (H₁ : Hp) (av : List Addr) (p : Addr) (ι' : List Addr) (H' : Hp) (η : Store) (vs : List V) (acc : List D) : Prop where
  x : Ext ι₁ H₁ ι' H'
  t : StRep mg T ι' (p :: av) H' η
  at_ : H' p = some (.lst vs)
  r : Reps mg ι' (p :: av) H' vs acc
theorem Lc.start {ι₁ av : List Addr} {H₁ : Hp} {η : Store} {p : Addr} (t : StRep mg T ι₁ av H₁ η) (hp : H₁ p = none) : Lc mg T ι₁ H₁ av p ι₁ (upd H₁ p (.lst [])) η [] [] := by
  have m : Mv ι₁ av H₁ ι₁ (p :: av) (upd H₁ p (.lst [])) := Mv.of (Ext.new hp) fun a ha => (List.mem_cons.mp ha).elim (fun z => .inr (by rw [z]; exact hp)) .inl
  refine ⟨Ext.new hp, t.mv m (fun a ha => upd_ne fun z => (t.fresh hp).1 (by rw [← z]; exact ha)) (fun a ha => ?_) (t.new hp).tab, upd_same, .nil⟩
  rcases List.mem_cons.mp ha with z | z
  · exact ⟨⟨_, by rw [z]; exact upd_same⟩, by rw [z]; exact (t.fresh hp).1⟩
  · exact (t.new (o := .lst []) hp).av_ a z
theorem Lc.keep {ι₁ av ι' ι'' : List Addr} {H₁ H' H'' : Hp} {η η' : Store} {p : Addr} {vs : List V} {acc : List D} (l : Lc mg T ι₁ H₁ av p ι' H' η vs acc) (x : Ext ι' H' ι'' H'') (t : StRep mg T ι'' (p :: av) H'' η') : Lc mg T ι₁ H₁ av p ι'' H'' η' vs acc :=
  ⟨l.x.trans x, t, (x.keep p _ l.at_ (l.t.av_ p List.mem_cons_self).2 nofun).1, l.r.ext x⟩
theorem Lc.push {ι₁ av ι' : List Addr} {H₁ H' : Hp} {η : Store} {p : Addr} {vs : List V} {acc : List D} {v : V} {d : D} (hp : H₁ p = none) (l : Lc mg T ι₁ H₁ av p ι' H' η vs acc) (r : Rep mg ι' (p :: av) H' v d) : Lc mg T ι₁ H₁ av p ι' (upd H' p (.lst (vs ++ [v]))) η (vs ++ [v]) (acc ++ [d]) := by
  have np := (l.t.av_ p List.mem_cons_self).2
  have m : Mv ι' (p :: av) H' ι' (p :: av) (upd H' p (.lst (vs ++ [v]))) := Mv.apart List.mem_cons_self
  refine ⟨⟨l.x.pre, fun a o h n k => ?_⟩, l.t.mv m (fun a ha => upd_ne fun z => np (by rw [← z]; exact ha)) (fun a ha => ?_) (tabs_upd l.at_ nofun nofun l.t.tab), upd_same, (l.r.append (.cons r .nil)).mv m⟩
  · obtain ⟨h1, h2⟩ := l.x.keep a o h n k
    exact ⟨by rw [upd_ne (ne_of_none h hp)]; exact h1, h2⟩
  · obtain ⟨⟨o, e⟩, n⟩ := l.t.av_ a ha
    by_cases z : a = p
    · exact ⟨⟨_, by rw [z]; exact upd_same⟩, n⟩
    · exact ⟨⟨o, by rw [upd_ne z]; exact e⟩, n⟩
theorem Lc.fin {ι₁ av ι' : List Addr} {H₁ H' : Hp} {η η₁ : Store} {p : Addr} {vs : List V} {acc : List D} (t₁ : StRep mg T ι₁ av H₁ η₁) (hp : H₁ p = none) (l : Lc mg T ι₁ H₁ av p ι' H' η vs acc) : Rep mg ι' av H' (.ref p) (.lst acc) ∧ StRep mg T ι' av H' η := by
  have m : Mv ι' (p :: av) H' ι' av H' := Mv.less fun a ha => List.mem_cons_of_mem _ ha
  exact ⟨.lst l.at_ (l.t.av_ p List.mem_cons_self).2 (t₁.fresh hp).2 (l.r.mv m), l.t.mv m (fun _ _ => rfl) (fun a ha => l.t.av_ a (List.mem_cons_of_mem _ ha)) l.t.tab⟩
/-- the reading by functions serves the comprehension's reading -/
theorem lc_reads {it : FI} {g : FG} {tt : FT} {te : FE} {sl vs : List Nat} {σ : L2.St} {H : Hp} {Q : VK} (hsl : ∀ j ∈ sl, j ∈ vs) (h : tE mg T E (fLc it g tt te vs) σ H Q) : tLc (tG mg T (rlI mg T) E it) (tTg mg T sl E0 g) (tT mg T E0 tt) (tE mg T E0 te) vs σ H Q := by
  obtain ⟨ρ, η, ι, av, s, t, h⟩ := h
  refine bindG s t h fun J I η₁ ι₁ H₁ e r t1 x1 s1 h1 => ?_
  obtain ⟨n0, h1⟩ := limR_is (P := fun r => PostG mg T (rlE mg) ι₁ av H₁ E Q (r.bind fun xs η2 => .ok (.lst xs) η2)) h1 id
  intro p hp
  refine ⟨fun i m H' => ∃ ι' η' vs' acc, Lc mg T ι₁ H₁ av p ι' H' η' vs' acc ∧ PostG mg T (rlE mg) ι₁ av H₁ E Q ((lcN I g tt te (wipeD ρ vs) m i acc η').bind fun xs η2 => .ok (.lst xs) η2), ⟨n0, ι₁, η₁, [], [], Lc.start t1 hp, h1⟩, ?_⟩
  rintro i m H' ⟨ι', η', vs', acc, l, w⟩
  cases m with
  | zero => exact w.elim
  | succ m =>
    unfold lcN at w
    have hit := r i ι' (p :: av) H' η' l.x (fun a z => (List.mem_cons.mp z).elim (fun z => .inr (by rw [z]; exact hp)) .inl) l.t
    cases ei : I.item i η' with
    | none => rw [ei] at w; exact w.elim
    | some o =>
      rw [ei] at w hit
      cases o with
      | none =>
        obtain ⟨f1, f2⟩ := l.fin t1 hp
        exact .inl ⟨hit, w _ H' ι' f1 f2 l.x⟩
      | some d =>
        dsimp only at w
        refine .inr ⟨hit.1, fun H' => ∃ ι' η' vs' acc, Lc mg T ι₁ H₁ av p ι' H' η' vs' acc ∧ PostG mg T (rlE mg) ι₁ av H₁ E Q ((lcN I g tt te (wipeD ρ vs) m (i + 1) acc η').bind fun xs η2 => .ok (.lst xs) η2), fun H2 q => ⟨m, Nat.lt_succ_self _, q⟩, fun y H2 hy => ?_⟩
        obtain ⟨rd, t2, x2⟩ := hit.2 y H2 hy
        have l2 := l.keep x2 t2
        have s2 : Sim mg ι' (p :: av) (wipeD ρ vs) (wipe σ vs) H2 := (s1.mv (Mv.of l2.x (av' := p :: av) fun a z => (List.mem_cons.mp z).elim (fun z => .inr (by rw [z]; exact hp)) .inl)).wipe vs
        refine ⟨wipeD ρ vs, η', ι', p :: av, d, s2, t2, rd, ?_⟩
        cases eg : g d (wipeD ρ vs) η' with
        | stk => rw [eg] at w; exact w.elim
        | rse c d' η'' => rw [eg] at w; exact w.elim
        | ok ρ3 η3 =>
          rw [eg] at w
          intro σ3 H3 ι3 s3 t3 x3 o3
          have l3 := l2.keep x3 t3
          refine ⟨?_, ?_⟩
          · have := o3.wipe hsl
            rw [this]
            refine List.ext_getElem? fun j => ?_
            rw [wipe_at, wipe_at, wipe_length]
            by_cases hj : j ∈ vs <;> simp [hj]
          · cases et : tt ρ3 η3 with
            | stk => simp only [R.bindN, et] at w; exact w.elim
            | rse c d' η'' => simp only [R.bindN, et] at w; exact w.elim
            | ok b η4 =>
              simp only [R.bindN, et] at w
              refine okN s3 t3 et fun b' ι4 H4 eb t4 x4 s4 => ?_
              obtain rfl : b' = b := eb
              have l4 := l3.keep x4 t4
              cases b' with
              | false =>
                rw [if_neg Bool.false_ne_true] at w ⊢
                exact ⟨ι4, η4, vs', acc, l4, w⟩
              | true =>
                rw [if_pos rfl] at w ⊢
                cases ee : te ρ3 η4 with
                | stk => rw [ee] at w; exact w.elim
                | rse c d' η'' => rw [ee] at w; exact w.elim
                | ok z η5 =>
                  rw [ee] at w
                  dsimp only at w
                  refine okN s4 t4 ee fun v ι5 H5 rv t5 x5 s5 => ?_
                  have l5 := l4.keep x5 t5
                  split at w
                  · rename_i hz
                    exact ⟨vs', l5.at_, by rw [l5.r.length]; exact hz, ι5, η5, _, _, l5.push hp rv, w⟩
                  · exact w.elim
def fYes : FT := fun _ η => .ok true η
section
variable {X : Cx}
theorem PTs.imp {es : List Expr} {t t' : TT} (h : PTs X es t) (k : ∀ σ H Q, t' σ H Q → t σ H Q) : PTs X es t' := ⟨fun pins s σ H Q I w => h.run pins s σ H Q I (k σ H Q w)⟩
theorem ts_none : PTs X [] (tT X.mg T E fYes) := PTs.imp pts_nil fun σ H Q ⟨ρ, η, ι, av, s, t, h⟩ => h true H ι rfl t (.refl _ _)
theorem ts_one {c : Expr} {f : FT} (h : PT X c (tT X.mg T E f)) : PTs X [c] (tT X.mg T E f) := pts_one h
theorem d_lc {elt tg iter : Expr} {ifs : List Expr} {scope : Scope} {own : List (Str × Nat)} {pos : Pos} {it : FI} {g : FG} {tt : FT} {te : FE} {sl : List Nat} (hc : X.calm = true) (hN : X.N.Nodup) (hi : PI X tg iter (tI X.mg T E it)) (ok : BlkOk X.N X.env.scope scope own)
    (hg : ∀ (s : Shared) (H : Hp) (C : Addr) (cl : List (Str × Addr)) (fp : List Addr), PG (X.blk s H scope (compEnvC scope cl C X.env) fp) tg (tTg X.mg T sl E0 g)) (ht : ∀ (s : Shared) (H : Hp) (C : Addr) (cl : List (Str × Addr)) (fp : List Addr), PTs (X.blk s H scope (compEnvC scope cl C X.env) fp) ifs (tT X.mg T E0 tt))
    (he : ∀ (s : Shared) (H : Hp) (C : Addr) (cl : List (Str × Addr)) (fp : List Addr), PE (X.blk s H scope (compEnvC scope cl C X.env) fp) elt (tE X.mg T E0 te)) (hsl : ∀ j ∈ sl, j ∈ own.map (·.2)) (hs : ∀ x, foldedSetIterable iter X.env x = pure x := by intro _; rfl) :
    PE X (.ListComp elt [⟨tg, iter, ifs, 0⟩] scope pos) (tE X.mg T E (fLc it g tt te (own.map (·.2)))) :=
  PE.imp (pe_lc hc hN hi ok hg ht he hs) fun σ H Q h => lc_reads hsl h
theorem s_setLc {i : Nat} {y : Str} {py : Pos} {elt tg iter : Expr} {ifs : List Expr} {scope : Scope} {own : List (Str × Nat)} {pos spos : Pos} {it : FI} {g : FG} {tt : FT} {te : FE} {sl : List Nat} (hc : X.calm = true) (hN : X.N.Nodup) (hy : X.N[i]? = some y) (hyl : X.env.scope.names.lookup y = some .local)
    (hsw : swapsWith (.ListComp elt [⟨tg, iter, ifs, 0⟩] scope pos) (some (.Name y py)) spos.line X.env = pure true) (hi : PI X tg iter (tI X.mg T E it)) (ok : BlkOk X.N X.env.scope scope own)
    (hg : ∀ (s : Shared) (H : Hp) (C : Addr) (cl : List (Str × Addr)) (fp : List Addr), PG (X.blk s H scope (compEnvC scope cl C X.env) fp) tg (tTg X.mg T sl E0 g)) (ht : ∀ (s : Shared) (H : Hp) (C : Addr) (cl : List (Str × Addr)) (fp : List Addr), PTs (X.blk s H scope (compEnvC scope cl C X.env) fp) ifs (tT X.mg T E0 tt))
    (he : ∀ (s : Shared) (H : Hp) (C : Addr) (cl : List (Str × Addr)) (fp : List Addr), PE (X.blk s H scope (compEnvC scope cl C X.env) fp) elt (tE X.mg T E0 te)) (hsl : ∀ j ∈ sl, j ∈ own.map (·.2)) (hs : ∀ x, foldedSetIterable iter X.env x = pure x := by intro _; rfl) :
    PS X (.Assign [.Name y py] (.ListComp elt [⟨tg, iter, ifs, 0⟩] scope pos) spos) (tS X.mg T E (sSet i (fLc it g tt te (own.map (·.2))))) :=
  PS.imp (ps_setLc hc hN hy hyl hsw hi ok hg ht he hs) fun Dn σ H ⟨ρ, η, ι, av, s, t, h⟩ =>
    lc_reads hsl (bindS s t h fun v d η₁ ι₁ H₁ e r t1 x1 s1 h1 => h1 _ H₁ ι₁ (s1.set r i) t1 (.refl _ _))
/-- in a comprehension's block the rules hold -/
theorem Good.blk {X : Cx} {k : Nat} {E : XK} (G : Good X k E) (s : Shared) (H : Hp) (scope : Scope) (cenv : Env) (fp : List Addr) : Good (X.blk s H scope cenv fp) k E0 :=
  ⟨G.calm, G.nd, G.gd, G.room, fun _ _ x => by
    obtain ⟨_, _, _, _, _, _, _, _, _, _, _, _, _, _, _, _, z⟩ := x
    exact z.elim⟩
end
end
end Dn
set_option Elab.async false
set_option linter.all false
set_option maxRecDepth 100000
/-! Dn, 9: defs by functions. -/
namespace Dn
open PySem PySem.Spec PyProof.Rows L2

/-! ### what a def's frame leaves behind -/
mutual
/-- nothing that may change is within -/
def D.pure : D → Bool
  | .ref _ => false
  | .tup xs => D.pures xs
  | .lst xs => D.pures xs
  | .dK _ xs => D.pures xs
  | .dT _ xs => D.pures xs
  | .exc _ x => D.pure x
  | _ => true
def D.pures : List D → Bool
  | [] => true
  | x :: xs => D.pure x && D.pures xs
end
mutual
/-- what the callee made, no longer to change -/
def frz (n : Nat) (η : Store) : Nat → D → Option D
  | 0, d => if d.pure then some d else none
  | k + 1, d => if d.pure then some d else match d with
    | .ref i => if i < n then some (.ref i) else match η[i]? with
      | some (.l xs) => (frzs n η k xs).map .lst
      | some (.dK ks xs) => (frzs n η k xs).map (.dK ks)
      | some (.dT ks xs) => (frzs n η k xs).map (.dT ks)
      | none => none
    | .tup xs => (frzs n η k xs).map .tup
    | .lst xs => (frzs n η k xs).map .lst
    | .dK ks xs => (frzs n η k xs).map (.dK ks)
    | .dT ks xs => (frzs n η k xs).map (.dT ks)
    | .exc c x => (frz n η k x).map (.exc c)
    | _ => none
def frzs (n : Nat) (η : Store) : Nat → List D → Option (List D)
  | _, [] => some []
  | k, x :: xs => match frz n η k x, frzs n η k xs with
    | some y, some ys => some (y :: ys)
    | _, _ => none
end
/-- what stays of the store -/
def M.pure : M → Bool
  | .l xs => D.pures xs
  | .dK _ xs => D.pures xs
  | .dT _ xs => D.pures xs
def exitR (n : Nat) : RS → R D
  | .rt d η => if (η.take n).all M.pure then (match frz n η 8 d with
    | some d' => .ok d' (η.take n)
    | none => .stk) else .stk
  | .nx _ η => if (η.take n).all M.pure then .ok .non (η.take n) else .stk
  | .rse c d η => if (η.take n).all M.pure then (match frz n η 8 d with
    | some d' => .rse c d' (η.take n)
    | none => .stk) else .stk
  | _ => .stk
section
variable {mg : Str → Option Value} {T : List (Addr × Str)} {ι av : List Addr} {H : Hp} {n : Nat}
mutual
theorem Rep.cut : ∀ {v : V} {d : D}, Rep mg ι av H v d → d.pure = true → Rep mg (ι.take n) av H v d
  | _, _, .non, _ => .non
  | _, _, .bl b, _ => .bl b
  | _, _, .int i, _ => .int i
  | _, _, .str z, _ => .str z
  | _, _, .tup h a m r, e => .tup h (fun z => a (List.mem_of_mem_take z)) m (Reps.cut r e)
  | _, _, .lst h a m r, e => .lst h (fun z => a (List.mem_of_mem_take z)) m (Reps.cut r e)
  | _, _, .dK h l a m r, e => .dK h l (fun z => a (List.mem_of_mem_take z)) m (Reps.cut r e)
  | _, _, .dT h l a m r, e => .dT h l (fun z => a (List.mem_of_mem_take z)) m (Reps.cut r e)
  | _, _, .scr h a m, _ => .scr h (fun z => a (List.mem_of_mem_take z)) m
  | _, _, .ref _, e => nomatch e
  | _, _, .exc c h1 h2 n1 m1 n2 m2 r, e => .exc c h1 h2 (fun z => n1 (List.mem_of_mem_take z)) m1 (fun z => n2 (List.mem_of_mem_take z)) m2 (Rep.cut r e)
theorem Reps.cut : ∀ {vs : List V} {ds : List D}, Reps mg ι av H vs ds → D.pures ds = true → Reps mg (ι.take n) av H vs ds
  | _, _, .nil, _ => .nil
  | _, _, .cons r t, e => by
    simp only [D.pures, Bool.and_eq_true] at e
    exact .cons (Rep.cut r e.1) (Reps.cut t e.2)
end
theorem not_take {ι : List Addr} (nd : ι.Nodup) {i n : Nat} {a : Addr} (h : ι[i]? = some a) (hi : ¬ i < n) : a ∉ ι.take n := fun z => by
  obtain ⟨j, hj, e⟩ := List.getElem_of_mem z
  rw [List.length_take] at hj
  have e2 : ι[j]? = some a := by
    rw [← e, List.getElem_take]
    exact List.getElem?_eq_getElem _
  have := (List.getElem?_inj (by omega) nd).mp (e2.trans h.symm)
  omega
mutual
theorem frz_rep {η : Store} (t : StRep mg T ι av H η) : ∀ (k : Nat) {v : V} {d d' : D}, Rep mg ι av H v d → frz n η k d = some d' → Rep mg (ι.take n) av H v d'
  | 0, v, d, d', r, e => by
    unfold frz at e
    split at e
    · rename_i h
      cases e
      exact r.cut h
    · cases e
  | k + 1, v, d, d', r, e => by
    unfold frz at e
    split at e
    · rename_i h
      cases e
      exact r.cut h
    · cases r with
      | @ref a i ha =>
        dsimp only at e
        split at e
        · rename_i hi
          cases e
          exact .ref (by rw [List.getElem?_take_of_lt hi]; exact ha)
        · rename_i hi
          obtain ⟨m, em, rm⟩ := t.has ha
          have na := not_take (n := n) t.nd ha hi
          have nv : a ∉ av := fun z => (t.av_ a z).2 (List.mem_of_getElem? ha)
          rw [em] at e
          cases rm with
          | l h q =>
            obtain ⟨ys, ey, rfl⟩ := Option.map_eq_some_iff.mp e
            exact .lst h na nv (frzs_rep t k q ey)
          | dK h l q =>
            obtain ⟨ys, ey, rfl⟩ := Option.map_eq_some_iff.mp e
            exact .dK (.inl h) l na nv (frzs_rep t k q ey)
          | dT h l q =>
            obtain ⟨ys, ey, rfl⟩ := Option.map_eq_some_iff.mp e
            exact .dT (.inl h) l na nv (frzs_rep t k q ey)
      | tup h a m q =>
        obtain ⟨ys, ey, rfl⟩ := Option.map_eq_some_iff.mp e
        exact .tup h (fun z => a (List.mem_of_mem_take z)) m (frzs_rep t k q ey)
      | lst h a m q =>
        obtain ⟨ys, ey, rfl⟩ := Option.map_eq_some_iff.mp e
        exact .lst h (fun z => a (List.mem_of_mem_take z)) m (frzs_rep t k q ey)
      | dK h l a m q =>
        obtain ⟨ys, ey, rfl⟩ := Option.map_eq_some_iff.mp e
        exact .dK h l (fun z => a (List.mem_of_mem_take z)) m (frzs_rep t k q ey)
      | dT h l a m q =>
        obtain ⟨ys, ey, rfl⟩ := Option.map_eq_some_iff.mp e
        exact .dT h l (fun z => a (List.mem_of_mem_take z)) m (frzs_rep t k q ey)
      | exc c h1 h2 n1 m1 n2 m2 q =>
        obtain ⟨ys, ey, rfl⟩ := Option.map_eq_some_iff.mp e
        exact .exc c h1 h2 (fun z => n1 (List.mem_of_mem_take z)) m1 (fun z => n2 (List.mem_of_mem_take z)) m2 (frz_rep t k q ey)
      | non => cases e
      | bl _ => cases e
      | int _ => cases e
      | str _ => cases e
      | scr _ _ _ => cases e
theorem frzs_rep {η : Store} (t : StRep mg T ι av H η) : ∀ (k : Nat) {vs : List V} {ds ds' : List D}, Reps mg ι av H vs ds → frzs n η k ds = some ds' → Reps mg (ι.take n) av H vs ds'
  | k, _, _, ds', .nil, e => by
    unfold frzs at e
    cases e
    exact .nil
  | k, _, _, ds', .cons r q, e => by
    unfold frzs at e
    split at e
    · rename_i y ys e1 e2
      cases e
      exact .cons (frz_rep t k r e1) (frzs_rep t k q e2)
    · cases e
end
theorem StRep.cut {η : Store} (t : StRep mg T ι av H η) (h : (η.take n).all M.pure = true) : StRep mg T (ι.take n) av H (η.take n) := by
  refine ⟨t.nd.sublist (List.take_sublist _ _), by rw [List.length_take, List.length_take, t.len], fun i a m h1 h2 => ?_, fun a ha => ⟨(t.av_ a ha).1, fun z => (t.av_ a ha).2 (List.mem_of_mem_take z)⟩, t.tab⟩
  have hp : m.pure = true := List.all_eq_true.mp h m (List.mem_of_getElem? h2)
  have hi : i < n := by
    have := (List.getElem?_eq_some_iff.mp h1).1
    rw [List.length_take] at this
    omega
  rw [List.getElem?_take_of_lt hi] at h1 h2
  cases t.at_ i a m h1 h2 with
  | l e q => exact .l e (q.cut hp)
  | dK e l q => exact .dK e l (q.cut hp)
  | dT e l q => exact .dT e l (q.cut hp)
theorem Ext.cut {ι' : List Addr} {H' : Hp} (x : Ext ι H ι' H') : Ext ι H (ι'.take ι.length) H' := by
  obtain ⟨t, e⟩ := x.pre
  refine ⟨⟨[], by rw [e]; simp⟩, fun a o h k l => ?_⟩
  obtain ⟨h1, h2⟩ := x.keep a o h k l
  exact ⟨h1, fun z => h2 (List.mem_of_mem_take z)⟩
theorem Ext.pre_take {ι' : List Addr} {H' : Hp} (x : Ext ι H ι' H') : ι'.take ι.length = ι := by
  obtain ⟨t, e⟩ := x.pre
  rw [e]
  simp
end

/-! ### a def's promise -/
abbrev FF := List D → Store → R D
structure FnG (P : Program) (w : World) (K : PySem.W.Frag) (mg : Str → Option Value) (base : Heap) (T : List (Addr × Str)) (k : Nat) (f : Addr) (fd : FuncData) (ps : List Str) (φ : FF) : Prop where
  run : ∀ (A : Around) (outer : List Env) (s : Shared) (H : Hp) (args : Args) (us : List Value) (vs : List V) (ds : List D) (η : Store) (ι av : List Addr) (Q : VK) (E : XK), Room k A → A.guards = some [] → Env0 P w K mg base A outer s H → BindsTo s fd args (ps.zip us) → Vals vs us →
    ds.length = ps.length → StRep mg T ι av H η → Reps mg ι av H vs ds → PostG mg T (rlE mg) ι av H E Q (φ ds η) → codeAny (model P w) A (.call (.ref f) args) (CR (L2.CX P w) outer P w H s Q E) s
theorem FnG.mono {P : Program} {w : World} {K : PySem.W.Frag} {mg : Str → Option Value} {base : Heap} {T : List (Addr × Str)} {j k : Nat} {f : Addr} {fd : FuncData} {ps : List Str} {φ : FF} (F : FnG P w K mg base T j f fd ps φ) (h : j ≤ k) : FnG P w K mg base T k f fd ps φ :=
  ⟨fun A outer s H args us vs ds η ι av Q E hr => F.run A outer s H args us vs ds η ι av Q E (hr.mono h)⟩
/-- nothing is told -/
theorem FnG.stk {P : Program} {w : World} {K : PySem.W.Frag} {mg : Str → Option Value} {base : Heap} {T : List (Addr × Str)} {k : Nat} {f : Addr} {fd : FuncData} {ps : List Str} : FnG P w K mg base T k f fd ps fun _ _ => .stk :=
  ⟨fun _ _ _ _ _ _ _ _ _ _ _ _ _ _ _ _ _ _ _ _ _ h => h.elim⟩
/-- another telling of the same -/
theorem FnG.to {P : Program} {w : World} {K : PySem.W.Frag} {mg : Str → Option Value} {base : Heap} {T : List (Addr × Str)} {k : Nat} {f : Addr} {fd : FuncData} {ps : List Str} {φ ψ : FF} (F : FnG P w K mg base T k f fd ps φ) (h : ∀ ds η, ψ ds η ≠ .stk → φ ds η = ψ ds η) : FnG P w K mg base T k f fd ps ψ :=
  ⟨fun A outer s H args us vs ds η ι av Q E hr hg e0 hb r hl t rd w => F.run A outer s H args us vs ds η ι av Q E hr hg e0 hb r hl t rd (by
    rw [h ds η fun z => by rw [z] at w; exact w]
    exact w)⟩
/-- the names' values at the entry -/
def startD (n : Nat) (ds : List D) : Ev := ds.map some ++ List.replicate (n - ds.length) none
theorem Sim.start {mg : Str → Option Value} {ι av : List Addr} {H : Hp} {N : List Str} {vs : List V} {ds : List D} (r : Reps mg ι av H vs ds) : Sim mg ι av (startD N.length ds) (L2.start N vs) H := by
  refine ⟨by simp [startD, L2.start, r.length], fun i d h => ?_⟩
  unfold startD at h
  by_cases hi : i < ds.length
  · rw [List.getElem?_append_left (by simpa using hi), List.getElem?_map] at h
    cases e : ds[i]? with
    | none => rw [e] at h; cases h
    | some d' =>
      rw [e] at h
      cases h
      obtain ⟨v, ev, rv⟩ := r.get e
      refine ⟨v, ?_, rv⟩
      unfold L2.start
      rw [List.getElem?_append_left (by rw [List.length_map, r.length]; exact hi), List.getElem?_map, ev]
      rfl
  · rw [List.getElem?_append_right (by simpa using hi), List.getElem?_replicate] at h
    split at h <;> cases h
/-- the def's function: its body from the arguments -/
def bodyF (n : Nat) (f : FS) : FF := fun ds η => exitR η.length (f (startD n ds) η)
/-- .. what it made goes on changing -/
def bodyK (n : Nat) (f : FS) : FF := fun ds η => match f (startD n ds) η with
  | .rt d η' => .ok d η'
  | .nx _ η' => .ok .non η'
  | .rse c d η' => .rse c d η'
  | _ => .stk
section
variable {P : Program} {w : World} {K : PySem.W.Frag} {mg : Str → Option Value} {base : Heap} {T : List (Addr × Str)} {k : Nat} {f : Addr} {name qual : Str} {params : Arguments} {body : List Stmt} {scope : Scope} {dV kV doc pm cdv ct oc : Value} {an od : Option Addr}
    {osl : Array (Option Value)} {N ps : List Str}
/-- the body's context -/
abbrev bx (P : Program) (w : World) (K : PySem.W.Frag) (mg : Str → Option Value) (base : Heap) (N : List Str) (qual : Str) (scope : Scope) (f : Addr) (cd : Value) (A : Around) (outer : List Env) (s : Shared) (H : Hp) (E : XK) : Cx := cxOf (L2.CX P w) P w K mg base N qual scope f cd A outer s H E
theorem good_bx {A : Around} {outer : List Env} {s : Shared} {H : Hp} {E : XK} (nd : N.Nodup) (hg : A.guards = some []) (hr : Room k (A.deeper (envOfC qual scope s.heap.objs.size f cdv))) : Good (bx P w K mg base N qual scope f cdv A outer s H E) k E :=
  ⟨rfl, nd, hg, hr, takes_of rfl rfl rfl rfl⟩
theorem fn_gen {φ : FF} {fs : FS} (lk : K.lookup f = some ⟨oc, od, .func (PySem.W.fnOf name qual params body scope dV kV doc pm an cdv ct), osl⟩) (hcd : PySem.W.codeIn K cdv qual = true) (S : FnScope N ps scope)
    (hbody : ∀ (A : Around) (outer : List Env) (s : Shared) (H : Hp) (E : XK), Good (bx P w K mg base N qual scope f cdv A outer s H E) k E → PSs (bx P w K mg base N qual scope f cdv A outer s H E) body (tS mg T E fs))
    (hφ : ∀ (ι av : List Addr) (H : Hp) (E : XK) (Q : VK) (ds : List D) (η : Store), StRep mg T ι av H η → PostG mg T (rlE mg) ι av H E Q (φ ds η) → PostS mg T ι av H E { nx := fun _ H' => Q .non H', rt := Q } (fs (startD N.length ds) η)) :
    FnG P w K mg base T (k + 1) f (PySem.W.fnOf name qual params body scope dV kV doc pm an cdv ct) ps φ := by
  refine ⟨fun A outer s H args us vs ds η ι av Q E hr hg e0 hb r hl t rd h => ?_⟩
  refine LamX.run_ofS (N := N) lk hcd S hr e0 hb r (by rw [rd.length]; exact hl) fun hr' => ⟨_, hbody A outer s H E (good_bx S.nd hg hr'), startD N.length ds, η, ι, av, Sim.start rd, t, hφ ι av H E Q ds η t h⟩
theorem exit_post {ι av : List Addr} {H : Hp} {E : XK} {Q : VK} {η : Store} {r : RS} (t : StRep mg T ι av H η) (h : PostG mg T (rlE mg) ι av H E Q (exitR η.length r)) : PostS mg T ι av H E { nx := fun _ H' => Q .non H', rt := Q } r := by
  cases r with
  | rt d η' =>
    simp only [exitR] at h
    split at h
    · rename_i hp
      cases ef : frz η.length η' 8 d with
      | none => rw [ef] at h; exact h.elim
      | some d' =>
        rw [ef] at h
        intro v H' ι' r' t' x'
        rw [← t.len] at ef hp h
        exact h v H' (ι'.take ι.length) (frz_rep t' 8 r' ef) (t'.cut hp) x'.cut
    · exact h.elim
  | nx ρ η' =>
    simp only [exitR] at h
    split at h
    · rename_i hp
      intro σ' H' ι' s' t' x'
      rw [← t.len] at hp h
      exact h .non H' (ι'.take ι.length) .non (t'.cut hp) x'.cut
    · exact h.elim
  | rse c d η' =>
    simp only [exitR] at h
    split at h
    · rename_i hp
      cases ef : frz η.length η' 8 d with
      | none => rw [ef] at h; exact h.elim
      | some d' =>
        rw [ef] at h
        intro C dx v H' ι' h1 h2 n1 n2 r' t' x'
        rw [← t.len] at ef hp h
        exact h C dx v H' (ι'.take ι.length) h1 h2 (fun z => n1 (List.mem_of_mem_take z)) n2 (frz_rep t' 8 r' ef) (t'.cut hp) x'.cut
    · exact h.elim
  | bk ρ η' => exact h.elim
  | ct ρ η' => exact h.elim
  | stk => exact h.elim
theorem fn_of {fs : FS} (lk : K.lookup f = some ⟨oc, od, .func (PySem.W.fnOf name qual params body scope dV kV doc pm an cdv ct), osl⟩) (hcd : PySem.W.codeIn K cdv qual = true) (S : FnScope N ps scope)
    (hbody : ∀ (A : Around) (outer : List Env) (s : Shared) (H : Hp) (E : XK), Good (bx P w K mg base N qual scope f cdv A outer s H E) k E → PSs (bx P w K mg base N qual scope f cdv A outer s H E) body (tS mg T E fs)) :
    FnG P w K mg base T (k + 1) f (PySem.W.fnOf name qual params body scope dV kV doc pm an cdv ct) ps (bodyF N.length fs) :=
  fn_gen lk hcd S hbody fun ι av H E Q ds η t h => exit_post t h
theorem fn_keep {fs : FS} (lk : K.lookup f = some ⟨oc, od, .func (PySem.W.fnOf name qual params body scope dV kV doc pm an cdv ct), osl⟩) (hcd : PySem.W.codeIn K cdv qual = true) (S : FnScope N ps scope)
    (hbody : ∀ (A : Around) (outer : List Env) (s : Shared) (H : Hp) (E : XK), Good (bx P w K mg base N qual scope f cdv A outer s H E) k E → PSs (bx P w K mg base N qual scope f cdv A outer s H E) body (tS mg T E fs)) :
    FnG P w K mg base T (k + 1) f (PySem.W.fnOf name qual params body scope dV kV doc pm an cdv ct) ps (bodyK N.length fs) :=
  fn_gen lk hcd S hbody fun ι av H E Q ds η t h => by
    unfold bodyK at h
    cases e : fs (startD N.length ds) η with
    | rt d η' => rw [e] at h; exact h
    | nx ρ η' => rw [e] at h; exact fun σ' H' ι' s' t' x' => h .non H' ι' .non t' x'
    | rse c d η' => rw [e] at h; exact h
    | bk ρ η' => rw [e] at h; exact h.elim
    | ct ρ η' => rw [e] at h; exact h.elim
    | stk => rw [e] at h; exact h.elim
end
section
variable {X : Cx} {T : List (Addr × Str)} {E : XK} {k : Nat} {f : Addr} {fd : FuncData} {ps : List Str} {φ : FF} {x : Str} {p pos : Pos} {e : Expr} {es : List Expr} {g : FA}
/-- f(..) -/
def fCa (n : Nat) (φ : FF) (g : FA) : FE := fun ρ η => (g ρ η).bind fun ds η1 => if ds.length = n then φ ds η1 else .stk
theorem d_call (G : Good X k E) (F : FnG X.prog X.w X.K X.mg X.base T k f fd ps φ) (hg : Gl X x) (hm : X.mg x = some (.ref f)) (hk : PySem.W.keepIn X.K (.ref f) = true) (hb : Binds X.K fd ps [])
    (ha : PA X (e :: es) (tA X.mg T E g)) (hdb : (x == ("__debug__" : Str)) = false := by decide) (he : starEach (e :: es) X.env = (false, eval e X.env) :: starEach es X.env := by rfl) (hpl : (backTo pos (starEach es X.env)).any (·.1) = false := by rfl) :
    PE X (.Call (.Name x p) (e :: es) [] pos) (tE X.mg T E (fCa ps.length φ g)) := by
  refine ⟨fun pins s σ H Q I ⟨ρ, η, ι, av, sm, t, h⟩ => ?_⟩
  have ha' := bindG (rl := rlA X.mg) (Qm := fun vs H1 => ∃ ds η₁ ι₁, StRep X.mg T ι₁ av H1 η₁ ∧ Reps X.mg ι₁ av H1 vs ds ∧ ds.length = ps.length ∧ PostG X.mg T (rlE X.mg) ι₁ av H1 E Q (φ ds η₁)) sm t h fun vs ds η₁ ι₁ H₁ e r t1 x1 s1 h1 => by
    by_cases hl : ds.length = ps.length
    · rw [if_pos hl] at h1
      exact ⟨ds, η₁, ι₁, t1, r, hl, h1⟩
    · rw [if_neg hl] at h1
      exact h1.elim
  refine wpAny_Call_Name_kw (ld_glob I hg hm ?_ hdb)
  refine PySem.W.callWith_K (h₀ := X.base) I.ok.mod.kin hk (thn (ha.run pos pins s σ H _ I ha') fun us s1 ⟨vs, H1, I1, r, ds, η₁, ι₁, t1, rd, hl, q⟩ => ⟨I1.kIn, ?_⟩) he hpl
  have hl' : (us ++ []).length = ps.length := by rw [List.append_nil, ← r.length, rd.length]; exact hl
  have hb' := hb s1 us I1.kIn hl'
  rw [List.append_nil] at hb'
  refine wpAny_call (codeAny_mono (F.run X.A X.stack s1 H1 ⟨us, []⟩ us vs ds η₁ ι₁ av Q E G.room G.gd I1.env0 hb' r hl t1 rd q) fun r s' hq => ?_)
  cases r with
  | error e => exact passes_call G.tk (fun _ _ _ _ z => z) pins σ H1 s1 e s' I1 hq
  | ok fl =>
    cases fl with
    | ret u => exact I1.after hq
    | next => exact False.elim hq
    | brk => exact False.elim hq
    | cont => exact False.elim hq
/-- f(.., k = v): g positional, h keywords -/
def fCaK (n : Nat) (gd : List D → List D → List D) (φ : FF) (g h : FA) : FE := fun ρ η => (g ρ η).bind fun ds η1 => (h ρ η1).bind fun es η2 => if (gd ds es).length = n then φ (gd ds es) η2 else .stk
theorem d_callK {ks : List Str} {kws : List Keyword} {gv : List Value → List Value → List Value} {gV : List V → List V → List V} {gd : List D → List D → List D} {h : FA} (G : Good X k E) (F : FnG X.prog X.w X.K X.mg X.base T k f fd ps φ) (hg : Gl X x) (hm : X.mg x = some (.ref f)) (hk : PySem.W.keepIn X.K (.ref f) = true) (hb : KBinds X.K fd ps ks gv gV)
    (hgd : ∀ {ι av : List Addr} {H : Hp} {vs zs : List V} {ds es : List D}, Reps X.mg ι av H vs ds → Reps X.mg ι av H zs es → Reps X.mg ι av H (gV vs zs) (gd ds es))
    (ha : PA X (e :: es) (tA X.mg T E g)) (hkw : PK X kws (tA X.mg T E h)) (hall : (backToKw pos (keywordEach kws X.env)).all (·.1.isSome) = true := by rfl) (hks : (backToKw pos (keywordEach kws X.env)).filterMap (·.1) = ks := by rfl)
    (hdb : (x == ("__debug__" : Str)) = false := by decide) (he : starEach (e :: es) X.env = (false, eval e X.env) :: starEach es X.env := by rfl)
    (hpl : ((backTo pos (starEach (e :: es) X.env)).any (·.1) || (backToKw pos (keywordEach kws X.env)).any (·.1.isNone)) = false := by rfl) :
    PE X (.Call (.Name x p) (e :: es) kws pos) (tE X.mg T E (fCaK ps.length gd φ g h)) := by
  refine ⟨fun pins s σ H Q I ⟨ρ, η, ι, av, sm, t, w⟩ => ?_⟩
  have ha' := bindG (rl := rlA X.mg) (Qm := fun vs H1 => tA X.mg T E h σ H1 fun zs H2 => ∃ ds es η₂ ι₂, StRep X.mg T ι₂ av H2 η₂ ∧ Reps X.mg ι₂ av H2 vs ds ∧ Reps X.mg ι₂ av H2 zs es ∧ (gd ds es).length = ps.length ∧ PostG X.mg T (rlE X.mg) ι₂ av H2 E Q (φ (gd ds es) η₂)) sm t w fun vs ds η₁ ι₁ H₁ e r t1 x1 s1 h1 =>
    bindG s1 t1 h1 fun zs es η₂ ι₂ H₂ e2 r2 t2 x2 s2 h2 => by
      by_cases hl : (gd ds es).length = ps.length
      · rw [if_pos hl] at h2
        exact ⟨ds, es, η₂, ι₂, t2, Reps.ext x2 r, r2, hl, h2⟩
      · rw [if_neg hl] at h2
        exact h2.elim
  refine wpAny_Call_Name_kw (ld_glob I hg hm ?_ hdb)
  refine PySem.W.callWith_KW (h₀ := X.base) I.ok.mod.kin hk hall (thn (ha.run pos pins s σ H _ I ha') fun us s1 ⟨vs, H1, I1, r, q⟩ => ?_) hpl he
  refine thn (hkw.run pos pins s1 σ H1 _ I1 q) fun ws s2 ⟨zs, H2, I2, rz, ds, es, η₂, ι₂, t2, rd, re, hl, q2⟩ => ⟨I2.kIn, ?_⟩
  rw [hks]
  have r2 := hb.rel r rz
  have rr := hgd rd re
  have hl' : (gv us ws).length = ps.length := by rw [← r2.length, rr.length]; exact hl
  refine wpAny_call (codeAny_mono (F.run X.A X.stack s2 H2 ⟨us, ks.zip ws⟩ (gv us ws) (gV vs zs) (gd ds es) η₂ ι₂ av Q E G.room G.gd I2.env0 (hb.to s2 us ws I2.kIn hl') r2 hl t2 rr q2) fun r s' hq => ?_)
  cases r with
  | error e => exact passes_call G.tk (fun _ _ _ _ z => z) pins σ H2 s2 e s' I2 hq
  | ok fl =>
    cases fl with
    | ret u => exact I2.after hq
    | next => exact False.elim hq
    | brk => exact False.elim hq
    | cont => exact False.elim hq
end
end Dn
set_option Elab.async false
set_option linter.all false
set_option maxRecDepth 100000
/-! Dn, 10: a tuple from behind, t[::-1]. -/
namespace Dn
open PySem PySem.Spec PyProof.Rows L2
section
variable {prog : Program} {w : World} {A : Around} {E : Value → Shared → Prop} {s : Shared}
theorem back_adjust (n : Nat) : Builtin.Slice.sliceAdjust none none (-1) (n : Int) = ((n : Int) - 1, -1) := rfl
theorem back_places (n : Nat) : Builtin.Slice.slicePlaces ((n : Int) - 1) (-1) (-1) = n := by
  unfold Builtin.Slice.slicePlaces
  have h1 : ¬ ((-1 : Int) > 0) := by decide
  have h2 : (- -1 : Int) = 1 := by decide
  simp only [h1, if_false, h2, Int.ediv_one]
  split <;> omega
theorem fm_congr {α β : Type} {f g : α → Option β} : ∀ {l : List α}, (∀ a ∈ l, f a = g a) → l.filterMap f = l.filterMap g
  | [], _ => rfl
  | a :: l, h => by
    rw [List.filterMap_cons, List.filterMap_cons, h a List.mem_cons_self, fm_congr fun b hb => h b (List.mem_cons_of_mem _ hb)]
theorem back_pick (xs : Array Value) : ((List.range xs.size).filterMap fun (m : Nat) => xs[(((xs.size : Int) - 1) + (m : Int) * -1).toNat]?).toArray = xs.toList.reverse.toArray := by
  have e : (List.range xs.size).filterMap (fun (m : Nat) => xs[(((xs.size : Int) - 1) + (m : Int) * -1).toNat]?) = ((List.range xs.size).map fun k => xs.size - 1 - k).filterMap (xs[·]?) := by
    rw [List.filterMap_map]
    refine fm_congr fun m hm => ?_
    have hm := List.mem_range.mp hm
    have : (((xs.size : Int) - 1) + (m : Int) * -1).toNat = xs.size - 1 - m := by omega
    rw [this]
    rfl
  rw [e, PySem.W.krv_range, List.filterMap_reverse, PySem.W.krv_all]
theorem back_applied {sl : Addr} {vl vu vs : Value} {n : Nat} {Q : Int × Int × Nat → Shared → Prop} (hs : s.heap.IsSliceOf sl vl vu vs) (pl : IsPart vl none) (pu : IsPart vu none) (ps : IsPart vs (some (-1)))
    (h : Q ((n : Int) - 1, -1, n) s) : wpAny (model prog w) A (Builtin.Slice.sliceApplied (.ref sl) (pure (n : Int))) Q E s := by
  obtain ⟨os, hos, hcs, hds⟩ := id hs
  unfold Builtin.Slice.sliceApplied Builtin.Slice.sliceFields
  refine wpAny_bind (wpAny_bind (wpAny_field hos hds (x := vl) rfl (wpAny_bind (wpAny_field hos hds (x := vu) rfl (wpAny_bind (wpAny_field hos hds (x := vs) rfl (wpAny_pure ?_)))))))
  refine wpAny_bind (HT.slicePart_ ps ?_)
  show wpAny _ _ (if ((-1 : Int) == 0) = true then _ else _) _ _ s
  rw [if_neg (by decide)]
  refine wpAny_bind (HT.slicePart_ pl (wpAny_bind (HT.slicePart_ pu (wpAny_bind (wpAny_pure ?_)))))
  show wpAny _ _ (pure ((n : Int) - 1, (-1 : Int), Builtin.Slice.slicePlaces ((n : Int) - 1) (-1) (-1))) _ _ s
  rw [back_places]
  exact wpAny_pure h
theorem back_tuple {t sl : Addr} {items : Array Value} {vl vu vs : Value} {Q : Value → Shared → Prop} (ht : IsTup s.heap t items) (hs : s.heap.IsSliceOf sl vl vu vs) (pl : IsPart vl none) (pu : IsPart vu none) (ps : IsPart vs (some (-1)))
    (h : Q (.ref s.heap.objs.size) { s with heap := s.heap.push { cls := .type "tuple", data := .seq items.toList.reverse.toArray } }) (hsz : items.size ≤ sizeLine) : wpAny (model prog w) A (getItem (.ref t) (.ref sl)) Q E s := by
  have hback : sizeOk (.seq items.toList.reverse.toArray) := by
    show items.toList.reverse.toArray.size ≤ sizeLine
    rw [List.size_toArray, List.length_reverse, Array.length_toList]
    exact hsz
  obtain ⟨os, hos, hcs, hds⟩ := id hs
  have hTs : s.TypeIs (.ref sl) "slice" := ⟨os, hos, hcs⟩
  unfold getItem
  try with_reducible refine wpAny_holding ?_
  first | refine wpAny_bind (wpAny_pure ?_) | skip
  refine wpAny_bind (wpAny_sequenceKey ht.typeIs (by decide) ?_)
  refine wpAny_bind (wpAny_callSpecial?_slot (name := Str.ofString "__getitem__") ht.typeIs PyProof.Rows.slot_tuple_getitem
    (wpAny_call_entry PyProof.Rows.slot_tuple_getitem ht.typeIs entry_tuple_getitem ?_ (args_tuple_getitem _ _)))
  show wpAny _ _ (Builtin.Tuple.tupleItemsOf (.ref t) >>= _) _ _ s
  refine wpAny_bind (tupleItemsOf_ ht ?_)
  refine wpAny_bind (wpAny_typeOf hTs ?_)
  rw [if_pos (by decide)]
  refine wpAny_bind (back_applied (n := items.size) hs pl pu ps ?_)
  have hno : ¬ ((((items.size : Int) - 1) == 0 && (-1 : Int) == 1 && items.size == items.size) = true) := by
    intro q
    rw [Bool.and_eq_true, Bool.and_eq_true] at q
    have q1 : (-1 : Int) = 1 := eq_of_beq q.1.2
    omega
  show wpAny _ _ (if (((items.size : Int) - 1) == 0 && (-1 : Int) == 1 && items.size == items.size) = true then _ else _) _ _ s
  rw [if_neg hno, back_pick]
  first
    | exact wpAny_bind (m := Builtin.Tuple.tupleExact _) (wpAny_newObj_type (wpAny_pure ⟨_, rfl, wpAny_pure h⟩) hback)
    | exact wpAny_bind (m := Builtin.Tuple.tupleExact _) (wpAny_newObj_type (wpAny_bind (wpAny_pure (wpAny_pure ⟨_, rfl, wpAny_pure h⟩))) hback)
    | exact wpAny_bind (wpAny_bind (m := Builtin.Tuple.tupleExact _) (wpAny_newObj_type (wpAny_pure (wpAny_pure ⟨_, rfl, wpAny_pure h⟩)) hback))
    | exact wpAny_bind (wpAny_bind (m := Builtin.Tuple.tupleExact _) (wpAny_newObj_type (wpAny_pure ⟨_, rfl, wpAny_pure h⟩) hback))
end
section
variable {X : Cx} {T : List (Addr × Str)} {E : XK}
/-- xs[::-1] of a list or a tuple -/
def dBack (η : Store) (d : D) : Option D := match d with
  | .tup xs => some (.tup xs.reverse)
  | d => (lstOf η d).map fun xs => .lst xs.reverse
theorem d_back {e : Expr} {k : Nat} {p1 p2 p3 pos : Pos} {f : FE} (he : PE X e (tE X.mg T E f)) : PE X (.Subscript e (.Slice none none (some (.UnaryOp .USub (.Constant (.int 1) k p1) p2)) p3) pos) (tE X.mg T E (f1 dBack f)) := by
  refine ⟨fun pins s σ H Q I ⟨ρ, η, ι, av, sm, t, h⟩ => ?_⟩
  have h' := bindG (rl := rlE X.mg) (Qm := fun x H1 => ∃ a, x = .ref a ∧ ((∃ xs, H1 a = some (.lst xs) ∧ ∀ p, H1 p = none → Q (.ref p) (upd H1 p (.lst xs.reverse))) ∨ ∃ xs, H1 a = some (.tup xs) ∧ ∀ p, H1 p = none → Q (.ref p) (upd H1 p (.tup xs.reverse)))) sm t h fun v d η₁ ι₁ H₁ e r t1 x1 s1 h1 => by
    cases eo : dBack η₁ d with
    | none => rw [eo] at h1; exact h1.elim
    | some z =>
      rw [eo] at h1
      unfold dBack at eo
      split at eo
      · cases eo
        cases r with
        | tup e1 n m q => exact ⟨_, rfl, .inr ⟨_, e1, fun p hp => h1 _ _ ι₁ (new_tup t1 q.reverse hp) (t1.new hp) (Ext.new hp)⟩⟩
      · obtain ⟨zs, hz, rfl⟩ := Option.map_eq_some_iff.mp eo
        obtain ⟨a, vs, rfl, e1, q⟩ := lstOf_rep t1 r hz
        exact ⟨a, rfl, .inl ⟨_, e1, fun p hp => h1 _ _ ι₁ (new_lst t1 q.reverse hp) (t1.new hp) (Ext.new hp)⟩⟩
  refine Subscript_ (thn (he.run pins s σ H _ I h') fun v s1 ⟨x, H1, I1, r1, a, ex, q⟩ => ?_)
  subst ex
  cases r1
  have hst : PO X (some (.UnaryOp .USub (.Constant (.int 1) k p1) p2)) (tPart (tUn (rU fun i => .int (-i)) (tC (.int 1)))) := po_some (pe_un un_neg pe_int)
  refine wpAny_Slice (thn (po_none.run pins s1 σ H1 (fun o H2 => o = none ∧ H2 = H1) I1 ⟨rfl, rfl⟩) fun vl s2 ⟨l, H2, I2, pl, el, e2⟩ => ?_)
  subst el e2
  refine thn (po_none.run pins s2 σ H2 (fun o H3 => o = none ∧ H3 = H2) I2 ⟨rfl, rfl⟩) fun vu s3 ⟨u, H3, I3, pu, eu, e3⟩ => ?_
  subst eu e3
  refine thn (hst.run pins s3 σ H3 (fun o H4 => o = some (-1) ∧ H4 = H3) I3 ⟨1, rfl, -1, rfl, rfl, rfl⟩) fun vs s4 ⟨o, H4, I4, ps, eo, e4⟩ => ?_
  subst eo e4
  have I5 : Inv X pins σ H4 { s4 with heap := s4.heap.push { cls := .type "slice", data := .fields #[vl, vu, vs] } } := I4.kept (t' := s4.toks) fun b ob q => Heap.get?_push_of_some _ q
  show wpAny (model X.prog X.w) X.A (subscriptTail e (.Slice none none (some (.UnaryOp .USub (.Constant (.int 1) k p1) p2)) p3) (.ref a) (.ref s4.heap.objs.size)) (EP X pins σ Q) X.xe { s4 with heap := s4.heap.push { cls := .type "slice", data := .fields #[vl, vu, vs] } }
  rcases q with ⟨xs, hx, q⟩ | ⟨xs, hx, q⟩
  · obtain ⟨its, r, ht, hz⟩ := I5.list (SqL.of hx)
    have hlen := r.length
    refine tail_any (ops := [.ref a, .ref s4.heap.objs.size]) ht.isList.typeIs (PySem.slot_list_getitem.lookup) ?_ (by with_unfolding_all rfl)
    refine wpAny_getItem_list_slice ht.isList (Heap.IsSliceOf.new _ vl vu vs) pl pu ps (by decide) ?_ (by rw [List.size_toArray]; omega)
    rw [PySem.W.krv_pick]
    refine ⟨.ref _, _, I5.laid (t' := s4.toks) (o := .lst xs.reverse) (fun b ob q => Heap.get?_push_of_some _ q) (Nat.le_refl _) ?_, rfl, q _ (I5.hok.fresh (Nat.le_refl _))⟩
    exact ⟨by rw [List.length_reverse]; exact hz, _, 0, r.reverse, Heap.get?_push_size _ rfl⟩
  · obtain ⟨its, r, ht, hz⟩ := I5.tuple (SqT.of hx)
    have hlen := r.length
    refine tail_any (ops := [.ref a, .ref s4.heap.objs.size]) ht.typeIs (PyProof.Rows.slot_tuple_getitem.lookup) ?_ (by with_unfolding_all rfl)
    refine back_tuple ht (Heap.IsSliceOf.new _ vl vu vs) pl pu ps ?_ (by rw [List.size_toArray]; omega)
    refine ⟨.ref _, _, I5.laid (t' := s4.toks) (o := .tup xs.reverse) (fun b ob q => Heap.get?_push_of_some _ q) (Nat.le_refl _) ?_, rfl, q _ (I5.hok.fresh (Nat.le_refl _))⟩
    exact ⟨by rw [List.length_reverse]; exact hz, _, r.reverse, IsTup.new _ _⟩
end
end Dn
set_option Elab.async false
set_option linter.all false
set_option maxRecDepth 100000
/-! Dn, 11: isinstance, repr, methods, dict displays, list(range). -/
namespace Dn
open PySem PySem.Spec PyProof.Rows L2

/-! ### isinstance -/
inductive Ty where
  | non | bl | int | str | tup | lst | dic
  deriving DecidableEq
def Ty.nm : Ty → String
  | .non => "NoneType"
  | .bl => "bool"
  | .int => "int"
  | .str => "str"
  | .tup => "tuple"
  | .lst => "list"
  | .dic => "dict"
def tyD (η : Store) : D → Option Ty
  | .non => some .non
  | .bl _ => some .bl
  | .int _ => some .int
  | .str _ => some .str
  | .tup _ => some .tup
  | .lst _ => some .lst
  | .scr _ => some .lst
  | .dK _ _ => some .dic
  | .ref i => match η[i]? with
    | some (.l _) => some .lst
    | some (.dK _ _) => some .dic
    | some (.dT _ _) => some .dic
    | none => none
  | _ => none
def isTy (a b : Ty) : Bool := decide (a = b) || (decide (a = .bl) && decide (b = .int))
theorem kit_tys : ∀ a b : Ty, b ≠ .non → kitB a.nm b.nm = some (isTy a b) := by
  intro a b hb
  cases a <;> cases b <;> first | exact absurd rfl hb | decide +kernel
def dIsi (b : Ty) (η : Store) (d : D) : Option D := (tyD η d).map fun a => .bl (isTy a b)
section
variable {mg : Str → Option Value} {T : List (Addr × Str)} {ι av : List Addr} {H : Hp} {η : Store}
theorem tyD_rep {K : PySem.W.Frag} {v : V} {d : D} {a : Ty} (t : StRep mg T ι av H η) (r : Rep mg ι av H v d) (h : tyD η d = some a) : TyX K H v (.type a.nm) := by
  cases r with
  | non => cases h; exact .base .non
  | bl b => cases h; exact .base (.bl b)
  | int i => cases h; exact .base (.int i)
  | str x => cases h; exact .base (.str x)
  | tup e _ _ _ => cases h; exact .base (.tup e)
  | lst e _ _ _ => cases h; exact .base (.lst e)
  | scr e _ _ => cases h; exact .base (.frz e)
  | dK e _ _ _ _ =>
    cases h
    rcases e with e | ⟨u, e⟩
    · exact .base (.dK e)
    · exact .fDict e
  | dT e _ _ _ _ => cases h
  | exc _ _ _ _ _ _ _ _ => cases h
  | ref e =>
    obtain ⟨m, h1, h2⟩ := t.has e
    simp only [tyD, h1] at h
    cases h2 with
    | l e2 _ => cases h; exact .base (.lst e2)
    | dK e2 _ _ => cases h; exact .base (.dK e2)
    | dT e2 _ _ => cases h; exact .base (.dT e2)
end
section
variable {X : Cx} {T : List (Addr × Str)} {E : XK}
theorem d_isi {b : Ty} {e : Expr} {n : Str} {p p2 pos : Pos} {f : FE} (hb : b ≠ .non) (he : PE X e (tE X.mg T E f)) (hg : Gl X "isinstance") (hm : X.mg "isinstance" = none) (hg2 : Gl X n) (hm2 : X.mg n = none) (hv2 : bootBuiltins n = some (.type b.nm))
    (hn2 : n ≠ "__name__" := by decide) (hd2 : (n == ("__debug__" : Str)) = false := by decide) (hs : starEach [e, .Name n p2] X.env = (false, eval e X.env) :: starEach [.Name n p2] X.env := by rfl) (hs2 : starEach [.Name n p2] X.env = (false, eval (.Name n p2) X.env) :: starEach [] X.env := by rfl)
    (hpl : (backTo pos (starEach [.Name n p2] X.env)).any (·.1) = false := by rfl) : PE X (.Call (.Name "isinstance" p) [e, .Name n p2] [] pos) (tE X.mg T E (f1 (dIsi b) f)) :=
  PE.imp (pe_callB call_isi hg hm boot_isinstance (pa_cons he (pa_cons (pe_bltn (v := .ty b.nm) hg2 hm2 hv2 rfl hn2 hd2) pa_nil hs2) hs) (by decide) (by decide) hs hpl) fun σ H Q ⟨ρ, η, ι, av, s, t, h⟩ =>
    bindG s t h fun v d η₁ ι₁ H₁ e r t1 x1 s1 h1 => by
      cases eo : dIsi b η₁ d with
      | none => rw [eo] at h1; exact h1.elim
      | some z =>
        rw [eo] at h1
        obtain ⟨a, ha, rfl⟩ := Option.map_eq_some_iff.mp eo
        exact ⟨v, .ty b.nm, _, _, _, rfl, .ty _, tyD_rep t1 r ha, kit_ty (kit_tys a b hb), h1 _ H₁ ι₁ (.bl _) t1 (.refl _ _)⟩

/-! ### methods -/
/-- o.m(..): what it gives, what the store becomes -/
def fMt (ty : Ty) (op : Store → D → List D → Option (D × Store)) (f : FE) (g : FA) : FE := fun ρ η => (f ρ η).bind fun o η1 => if tyD η1 o = some ty then (g ρ η1).bind fun ds η2 => match op η2 o ds with
  | some (d, η3) => .ok d η3
  | none => .stk else .stk
def rMt (mg : Str → Option Value) (T : List (Addr × Str)) (op : Store → D → List D → Option (D × Store)) : V → List V → Hp → VK → Prop := fun x vs H Q => ∃ (ι av : List Addr) (η η' : Store) (o : D) (ds : List D) (d : D), StRep mg T ι av H η ∧ Rep mg ι av H x o ∧ Reps mg ι av H vs ds ∧ op η o ds = some (d, η') ∧
  ∀ (v : V) (H' : Hp), Rep mg ι av H' v d → StRep mg T ι av H' η' → Ext ι H ι H' → Q v H'
def tyL : Ty → Bool
  | .str => true
  | .lst => true
  | _ => false
theorem tyV_of {K : PySem.W.Frag} {mg : Str → Option Value} {ι av : List Addr} {H : Hp} {η : Store} {v : V} {d : D} {a : Ty} (ha : tyL a = true) (t : StRep mg T ι av H η) (r : Rep mg ι av H v d) (h : tyD η d = some a) : tyV K a.nm v H := by
  cases r with
  | str x => cases h; rfl
  | lst e _ _ _ => cases h; exact .inl ⟨rfl, _, SqL.of e⟩
  | scr e _ _ => cases h; exact .inl ⟨rfl, _, .inl (.inr ⟨_, e⟩)⟩
  | ref e =>
    obtain ⟨m, h1, h2⟩ := t.has e
    simp only [tyD, h1] at h
    cases h2 with
    | l e2 _ => cases h; exact .inl ⟨rfl, _, SqL.of e2⟩
    | dK e2 _ _ => cases h; cases ha
    | dT e2 _ _ => cases h; cases ha
  | non => cases h; cases ha
  | bl _ => cases h; cases ha
  | int _ => cases h; cases ha
  | tup _ _ _ _ => cases h; cases ha
  | dK _ _ _ _ _ => cases h; cases ha
  | dT _ _ _ _ _ => cases h
  | exc _ _ _ _ _ _ _ _ => cases h
theorem d_mt {ty : Ty} {o e : Expr} {es : List Expr} {name : Str} {id : String} {apos cpos : Pos} {op : Store → D → List D → Option (D × Store)} {f : FE} {g : FA} (hy : tyL ty = true) (pa : PlainAttrs ty.nm) (slot : Slot ty.nm name id) (hty : typeOf (.builtin id) = pure (.type "method_descriptor")) (hm : MtR X id (rMt X.mg T op))
    (ho : PE X o (tE X.mg T E f)) (ha : PA X (e :: es) (tA X.mg T E g)) (hbase : attributeBase o name X.env (eval o X.env) = eval o X.env := by rfl)
    (hfew : ((backTo cpos (starEach (e :: es) X.env)).all (fun x => !x.1) && (backToKw cpos (keywordEach [] X.env)).all (fun x => x.1.isSome)
      && decide ((e :: es).length + ([] : List Keyword).length + (if ([] : List Keyword).isEmpty then 0 else 1) < 30)) = true := by rfl)
    (hline : (apos.endLine == cpos.line) = true := by rfl) (hs : starEach (e :: es) X.env = (false, eval e X.env) :: starEach es X.env := by rfl) (hplain : (backTo cpos (starEach es X.env)).any (·.1) = false := by rfl) :
    PE X (.Call (.Attribute o name apos) (e :: es) [] cpos) (tE X.mg T E (fMt ty op f g)) :=
  PE.imp (pe_bm pa slot hty hm ho ha hbase hfew hline hs hplain) fun σ H Q ⟨ρ, η, ι, av, s, t, h⟩ => bindG s t h fun v d η₁ ι₁ H₁ e r t1 x1 s1 h1 => by
    by_cases hd : tyD η₁ d = some ty
    · rw [if_pos hd] at h1
      refine ⟨tyV_of hy t1 r hd, bindG s1 t1 h1 fun vs ds η₂ ι₂ H₂ e2 r2 t2 x2 s2 h2 => ?_⟩
      cases eo : op η₂ d ds with
      | none => rw [eo] at h2; exact h2.elim
      | some z =>
        rw [eo] at h2
        exact ⟨ι₂, av, η₂, z.2, d, ds, z.1, t2, r.ext x2, r2, eo, fun u H' r3 t3 x3 => h2 u H' ι₂ r3 t3 x3⟩
    · rw [if_neg hd] at h1
      exact h1.elim
theorem d_mt0 {ty : Ty} {o : Expr} {name : Str} {id : String} {apos cpos : Pos} {op : Store → D → List D → Option (D × Store)} {f : FE} (hy : tyL ty = true) (pa : PlainAttrs ty.nm) (slot : Slot ty.nm name id) (hty : typeOf (.builtin id) = pure (.type "method_descriptor")) (hm : MtR X id (rMt X.mg T op))
    (ho : PE X o (tE X.mg T E f)) (hbase : attributeBase o name X.env (eval o X.env) = eval o X.env := by rfl) (hline : (apos.endLine == cpos.line) = true := by rfl) :
    PE X (.Call (.Attribute o name apos) [] [] cpos) (tE X.mg T E (fMt ty op f fNil)) :=
  PE.imp (pe_bm0 pa slot hty hm ho hbase hline) fun σ H Q ⟨ρ, η, ι, av, s, t, h⟩ => bindG s t h fun v d η₁ ι₁ H₁ e r t1 x1 s1 h1 => by
    by_cases hd : tyD η₁ d = some ty
    · rw [if_pos hd] at h1
      refine ⟨tyV_of hy t1 r hd, ?_⟩
      simp only [fNil, R.bind_ok] at h1
      cases eo : op η₁ d [] with
      | none => rw [eo] at h1; exact h1.elim
      | some z =>
        rw [eo] at h1
        exact ⟨ι₁, av, η₁, z.2, d, [], z.1, t1, r, .nil, eo, fun u H' r3 t3 x3 => h1 u H' ι₁ r3 t3 x3⟩
    · rw [if_neg hd] at h1
      exact h1.elim
theorem MtR.imp {id : String} {r r' : V → List V → Hp → VK → Prop} (h : MtR X id r) (k : ∀ x vs H Q, r' x vs H Q → r x vs H Q) : MtR X id r' := fun pins s σ H x xs v us Q I rx rxs w => h pins s σ H x xs v us Q I rx rxs (k x xs H Q w)
/-- l.append(d) -/
def mApp (η : Store) (o : D) (ds : List D) : Option (D × Store) := match o, ds with
  | .ref i, [d] => match η[i]? with
    | some (.l xs) => if xs.length < sizeLine then some (.non, η.set i (.l (xs ++ [d]))) else none
    | _ => none
  | _, _ => none
def mPop (η : Store) (o : D) (ds : List D) : Option (D × Store) := match o, ds with
  | .ref i, [] => match η[i]? with
    | some (.l xs) => xs.getLast?.map fun d => (d, η.set i (.l xs.dropLast))
    | _ => none
  | _, _ => none
def mUpper (η : Store) (o : D) (ds : List D) : Option (D × Store) := match o, ds with
  | .str x, [] => if x.length ≤ 5592405 then some (.str (Txt.upper x), η) else none
  | _, _ => none
theorem Reps.dropLast {mg : Str → Option Value} {ι av : List Addr} {H : Hp} : ∀ {vs : List V} {ds : List D}, Reps mg ι av H vs ds → Reps mg ι av H vs.dropLast ds.dropLast := fun {vs ds} r => by
  rw [List.dropLast_eq_take, List.dropLast_eq_take, r.length]
  exact r.take _
theorem mt_app : MtR X "list.append" (rMt X.mg T mApp) := MtR.imp mt_append fun x vs H Q ⟨ι, av, η, η', o, ds, d, t, ro, rd, e, k⟩ => by
  unfold mApp at e
  split at e
  · rename_i i d0
    split at e
    · rename_i xs em
      split at e
      · rename_i hz
        cases e
        cases ro with
        | @ref a _ ea =>
          obtain ⟨m, h1, h2⟩ := t.has ea
          rw [em] at h1
          cases h1
          obtain ⟨v, rfl, rv⟩ := rd.one
          cases h2 with
          | @l ws _ e1 q =>
            have ha : a ∈ ι := List.mem_of_getElem? ea
            exact ⟨a, ws, v, rfl, rfl, e1, by rw [q.length]; exact hz, k _ _ .non (t.put ea (.l upd_same ((q.append (.cons rv .nil)).ext (Ext.put ha)))) (Ext.put ha)⟩
      · cases e
    · cases e
  · cases e
theorem mt_popD : MtR X "list.pop" (rMt X.mg T mPop) := MtR.imp mt_pop fun x vs H Q ⟨ι, av, η, η', o, ds, d, t, ro, rd, e, k⟩ => by
  unfold mPop at e
  split at e
  · rename_i i
    split at e
    · rename_i xs em
      obtain ⟨y, hy, ez⟩ := Option.map_eq_some_iff.mp e
      cases ez
      cases rd
      cases ro with
      | @ref a _ ea =>
        obtain ⟨m, h1, h2⟩ := t.has ea
        rw [em] at h1
        cases h1
        cases h2 with
        | @l ws _ e1 q =>
          have ha : a ∈ ι := List.mem_of_getElem? ea
          rw [List.getLast?_eq_getElem?] at hy
          obtain ⟨v, ev, rv⟩ := q.get hy
          exact ⟨a, ws, v, rfl, rfl, e1, by rw [q.length]; exact ev, k _ _ (rv.ext (Ext.put ha)) (t.put ea (.l upd_same (q.dropLast.ext (Ext.put ha)))) (Ext.put ha)⟩
    · cases e
  · cases e
theorem mt_upperD : MtR X "str.upper" (rMt X.mg T mUpper) := MtR.imp mt_upper fun x vs H Q ⟨ι, av, η, η', o, ds, d, t, ro, rd, e, k⟩ => by
  unfold mUpper at e
  split at e
  · split at e
    · rename_i hz
      cases e
      cases ro
      cases rd
      exact ⟨_, rfl, rfl, hz, k _ H (.str _) t (.refl _ _)⟩
    · cases e
  · cases e
theorem d_append {o e : Expr} {apos cpos : Pos} {f : FE} {g : FA} (ho : PE X o (tE X.mg T E f)) (ha : PA X [e] (tA X.mg T E g)) (hbase : attributeBase o "append" X.env (eval o X.env) = eval o X.env := by rfl)
    (hfew : ((backTo cpos (starEach [e] X.env)).all (fun x => !x.1) && (backToKw cpos (keywordEach [] X.env)).all (fun x => x.1.isSome)
      && decide (([e] : List Expr).length + ([] : List Keyword).length + (if ([] : List Keyword).isEmpty then 0 else 1) < 30)) = true := by rfl)
    (hline : (apos.endLine == cpos.line) = true := by rfl) (hs : starEach [e] X.env = (false, eval e X.env) :: starEach [] X.env := by rfl) (hplain : (backTo cpos (starEach [] X.env)).any (·.1) = false := by rfl) :
    PE X (.Call (.Attribute o "append" apos) [e] [] cpos) (tE X.mg T E (fMt .lst mApp f g)) := d_mt (ty := .lst) rfl F.plainAttrs_list F.slot_list_append F.type_list_append mt_app ho ha hbase hfew hline hs hplain
theorem d_pop {o : Expr} {apos cpos : Pos} {f : FE} (ho : PE X o (tE X.mg T E f)) (hbase : attributeBase o "pop" X.env (eval o X.env) = eval o X.env := by rfl) (hline : (apos.endLine == cpos.line) = true := by rfl) :
    PE X (.Call (.Attribute o "pop" apos) [] [] cpos) (tE X.mg T E (fMt .lst mPop f fNil)) := d_mt0 (ty := .lst) rfl F.plainAttrs_list F.slot_list_pop F.type_list_pop mt_popD ho hbase hline
theorem d_upper {o : Expr} {apos cpos : Pos} {f : FE} (ho : PE X o (tE X.mg T E f)) (hbase : attributeBase o "upper" X.env (eval o X.env) = eval o X.env := by rfl) (hline : (apos.endLine == cpos.line) = true := by rfl) :
    PE X (.Call (.Attribute o "upper" apos) [] [] cpos) (tE X.mg T E (fMt .str mUpper f fNil)) := d_mt0 (ty := .str) rfl F.plainAttrs_str F.slot_str_upper F.type_str_upper mt_upperD ho hbase hline

/-! ### dict displays -/
def fDT : FE := fun _ η => .ok (.ref η.length) (η ++ [.dT [] []])
def fDK0 : FE := fun _ η => .ok (.dK [] []) η
theorem d_dictT {pos : Pos} : PE X (.Dict [] [] pos) (tE X.mg T E fDT) := PE.imp pe_dnewT fun σ H Q ⟨ρ, η, ι, av, s, t, h⟩ p hp =>
  h _ _ (ι ++ [p]) (.ref (by rw [← t.len, List.getElem?_append_right (Nat.le_refl _), Nat.sub_self]; rfl)) (t.newM hp (.dT upd_same rfl .nil)) (Ext.newM hp)
theorem d_dict0 {pos : Pos} : PE X (.Dict [] [] pos) (tE X.mg T E fDK0) := PE.imp pe_dnewK fun σ H Q ⟨ρ, η, ι, av, s, t, h⟩ p hp =>
  h _ _ ι (.dK (.inl upd_same) rfl (t.fresh hp).1 (t.fresh hp).2 .nil) (t.new hp) (Ext.new hp)
/-- {'x': e} -/
def fDK1 (k : Str) (f : FE) : FE := fun ρ η => (f ρ η).bind fun d η1 => .ok (.dK [.inr k] [d]) η1
theorem d_dict1 {k : Str} {j : Nat} {p1 pos : Pos} {e : Expr} {i : Int} {j2 : Nat} {p2 : Pos} : PE X (.Dict [some (.Constant (.str k) j p1)] [.Constant (.int i) j2 p2] pos) (tE X.mg T E (fDK1 k (fC (.int i)))) :=
  PE.imp (pe_disp (pps_cons pe_str pe_int pps_nil) rfl rfl (List.cons_ne_nil _ _) (by show 1 ≤ 15; decide)) fun σ H Q ⟨ρ, η, ι, av, s, t, h⟩ p hp => by
    refine ⟨upd_same, [(.inr k, .int i)], rfl, by show 1 ≤ 15; decide, ?_⟩
    have e1 : upd (upd H p (.dK [])) p (.dK (mergeK [] [((Sum.inr k : Key), V.int i)])) = upd H p (.dK [((Sum.inr k : Key), V.int i)]) := by
      funext b
      by_cases hb : b = p
      · rw [hb, upd_same, upd_same]
        rfl
      · rw [upd_ne hb, upd_ne hb, upd_ne hb]
    show Q (.ref p) (upd (upd H p (.dK [])) p (.dK (mergeK [] [((Sum.inr k : Key), V.int i)])))
    rw [e1]
    refine h _ _ ι (.dK (ks := [.inr k]) (vs := [.int i]) (.inl ?_) rfl (t.fresh hp).1 (t.fresh hp).2 (.cons (.int i) .nil)) (t.new hp) (Ext.new hp)
    rw [upd_same]
    rfl

/-! ### list(range(..)), tuple(range(..)) -/
def rgL (ds : List D) : Option (List D) := match ds with
  | [.int j] => if 0 ≤ j ∧ j ≤ 16777216 then some ((List.range j.toNat).map fun i => .int (i : Nat)) else none
  | _ => none
def fLRg (f : FE) : FE := fun ρ η => (f ρ η).bind fun d η1 => R.of η1 ((rgL [d]).map .lst)
theorem rg_reps {mg : Str → Option Value} {ι av : List Addr} {H : Hp} (j : Int) : Reps mg ι av H (rgV 0 j) ((List.range j.toNat).map fun i => .int (i : Nat)) := by
  unfold rgV
  rw [show (j - 0).toNat = j.toNat by rw [Int.sub_zero]]
  have : ∀ l : List Nat, Reps mg ι av H (l.map fun i => V.int (0 + (i : Nat))) (l.map fun i => D.int (i : Nat)) := fun l => by
    induction l with
    | nil => exact .nil
    | cons a l ih =>
      rw [List.map_cons, List.map_cons]
      refine .cons ?_ ih
      rw [show (0 : Int) + (a : Nat) = (a : Nat) by omega]
      exact .int _
  exact this _
theorem d_listRg {e : Expr} {p q pos pos2 : Pos} {f : FE} (hc : X.calm = true) (hg : Gl X "list") (hm : X.mg "list" = none) (hg2 : Gl X "range") (hm2 : X.mg "range" = none) (he : PE X e (tE X.mg T E f)) (na : starEach [e] X.env = (false, eval e X.env) :: starEach [] X.env := by rfl)
    (na2 : starEach [.Call (.Name "range" q) [e] [] pos2] X.env = (false, eval (.Call (.Name "range" q) [e] [] pos2) X.env) :: starEach [] X.env := by rfl) : PE X (.Call (.Name "list" p) [.Call (.Name "range" q) [e] [] pos2] [] pos) (tE X.mg T E (fLRg f)) :=
  PE.imp (pe_listRg hc hg hm (prg_1 hg2 hm2 he na) na2) fun σ H Q ⟨ρ, η, ι, av, s, t, h⟩ => bindG s t h fun v d η₁ ι₁ H₁ e r t1 x1 s1 h1 => by
    cases eo : rgL [d] with
    | none => rw [eo] at h1; exact h1.elim
    | some xs =>
      rw [eo] at h1
      unfold rgL at eo
      split at eo
      · rename_i j hj
        split at eo
        · rename_i hz
          cases hj
          cases eo
          cases r
          refine ⟨j, rfl, ⟨by omega, by omega, by omega, by omega, by omega⟩, fun p hp => h1 _ _ ι₁ (new_lst t1 (rg_reps j) hp) (t1.new hp) (Ext.new hp)⟩
        · cases eo
      · cases eo
end
end Dn
set_option Elab.async false
set_option linter.all false
set_option maxRecDepth 100000
/-! Dn, 12: repr. -/
namespace Dn
open PySem PySem.Spec PyProof.Rows L2

/-- a plain thing -/
def toS : D → Option PyData
  | .non => some .none
  | .bl b => some (.bool b)
  | .int i => some (.int i)
  | .str x => some (.str x)
  | _ => none
def toSs : List D → Option (List PyData)
  | [] => some []
  | x :: xs => match toS x, toSs xs with
    | some p, some ps => some (p :: ps)
    | _, _ => none
def kD : Key → PyData
  | .inl i => .int i
  | .inr x => .str x
/-- what is shown: a dict of plain things, or what toP tells -/
def toR (η : Store) : D → Option PyData
  | .dK ks xs => if ks.length = xs.length then (toSs xs).map fun ps => .dict ((ks.map kD).zip ps) else none
  | d => toP η d
theorem ndInts : ∀ xs : List Int, PyData.hasDictAll (xs.map .int) = false
  | [] => rfl
  | x :: xs => by
    rw [List.map_cons, PyData.hasDictAll, ndInts xs]
    rfl
mutual
theorem toP0_nd : ∀ (d : D) (p : PyData), toP0 d = some p → p.hasDict = false
  | .non, _, h => by cases h; rfl
  | .bl b, _, h => by cases h; rfl
  | .int i, _, h => by cases h; rfl
  | .str x, _, h => by cases h; rfl
  | .tup xs, p, h => by
    rw [toP0] at h
    obtain ⟨ps, h1, rfl⟩ := Option.map_eq_some_iff.mp h
    rw [PyData.hasDict]
    exact toPs_nd xs ps h1
  | .lst xs, p, h => by
    rw [toP0] at h
    obtain ⟨ps, h1, rfl⟩ := Option.map_eq_some_iff.mp h
    rw [PyData.hasDict]
    exact toPs_nd xs ps h1
  | .scr xs, p, h => by
    cases h
    rw [PyData.hasDict]
    exact ndInts xs
  | .dK _ _, _, h => by cases h
  | .dT _ _, _, h => by cases h
  | .ref _, _, h => by cases h
  | .exc _ _, _, h => by cases h
theorem toPs_nd : ∀ (ds : List D) (ps : List PyData), toPs ds = some ps → PyData.hasDictAll ps = false
  | [], _, h => by cases h; rfl
  | d :: ds, qs, h => by
    obtain ⟨p, ps, h1, h2, rfl⟩ := toPs_inv h
    rw [PyData.hasDictAll, toP0_nd d p h1, toPs_nd ds ps h2]
    rfl
end
theorem toP_nd {η : Store} {d : D} {p : PyData} (h : toP η d = some p) : p.hasDict = false := by
  cases d with
  | ref i =>
    simp only [toP] at h
    split at h
    · rename_i xs e
      obtain ⟨ps, h1, rfl⟩ := Option.map_eq_some_iff.mp h
      rw [PyData.hasDict]
      exact toPs_nd xs ps h1
    · cases h
  | _ => exact toP0_nd _ _ h
def dRepr (η : Store) (ds : List D) : Option D := match ds with
  | [d] => match toR η d with
    | some p => if p.showable = true ∧ p.depth < 40 ∧ p.shown.length ≤ sizeLine then some (.str p.shown) else none
    | none => none
  | _ => none
section
variable {X : Cx} {pins : List (Addr × Obj)} {σ : L2.St} {H : Hp} {s : Shared} {T : List (Addr × Str)} {ι av : List Addr} {η : Store}
theorem toS_reads {v : V} {d : D} {u : Value} {p : PyData} (r : Rep X.mg ι av H v d) (ru : RelV v u) (h : toS d = some p) : Reads s.heap u p [] := by
  cases r with
  | non => cases h; obtain rfl : u = .none := ru; exact .none
  | bl b => cases h; obtain rfl : u = .bool b := ru; exact .bool b
  | int i => cases h; obtain ⟨t, rfl⟩ := ru; exact .int i t
  | str x => cases h; obtain ⟨t, rfl⟩ := ru; exact .str x t
  | _ => cases h
theorem toSs_reads : ∀ {vs : List V} {ds : List D} {us : List Value} {ps : List PyData}, Reps X.mg ι av H vs ds → Vals vs us → toSs ds = some ps → ReadsAll s.heap us ps [] ∧ ps.length = ds.length
  | _, _, _, _, .nil, .nil, h => by cases h; exact ⟨.nil, rfl⟩
  | _, _, _, _, .cons r t, .cons ru tu, h => by
    rw [toSs] at h
    split at h
    · rename_i p ps h1 h2
      cases h
      obtain ⟨q, l⟩ := toSs_reads t tu h2
      exact ⟨.cons (as := []) (bs := []) (toS_reads r ru h1) q, by rw [List.length_cons, List.length_cons, l]⟩
    · cases h
theorem key_reads {k : Key} {u : Value} (h : keyIs k u = true) : Reads s.heap u (kD k) [] := by
  rcases keyIs_shape h with ⟨i, t, rfl, rfl⟩ | ⟨x, t, rfl, rfl⟩
  · exact .int i t
  · exact .str x t
theorem pairs_reads {P : Program} {w : World} {es : List DictEntry} {vs : List (Key × Value)} (h : Pairs (mixKind P w) es vs) : ReadsAll s.heap (es.map (·.key)) ((vs.map (·.1)).map kD) [] ∧ es.map (·.val) = vs.map (·.2) := by
  induction h with
  | nil => exact ⟨.nil, rfl⟩
  | cons h1 h2 _ ih => exact ⟨.cons (as := []) (bs := []) (key_reads h1) ih.1, by rw [List.map_cons, List.map_cons, h2, ih.2]⟩
theorem kv_vals {kvs : List (Key × V)} {vs : List (Key × Value)} (h : KV kvs vs) : vs.map (·.1) = kvs.map (·.1) ∧ Vals (kvs.map (·.2)) (vs.map (·.2)) := by
  unfold KV at h
  induction h with
  | nil => exact ⟨rfl, .nil⟩
  | cons h _ ih => exact ⟨by rw [List.map_cons, List.map_cons, ih.1, h.1], .cons h.2 ih.2⟩
theorem zip_fst {α β : Type} : ∀ {xs : List α} {ys : List β}, xs.length = ys.length → (xs.zip ys).map (·.1) = xs
  | [], _, _ => rfl
  | x :: xs, [], h => by simp at h
  | x :: xs, y :: ys, h => by rw [List.zip_cons_cons, List.map_cons, zip_fst (by simpa using h)]
theorem zip_snd {α β : Type} : ∀ {xs : List α} {ys : List β}, xs.length = ys.length → (xs.zip ys).map (·.2) = ys
  | [], [], _ => rfl
  | [], y :: ys, h => by simp at h
  | x :: xs, [], h => by simp at h
  | x :: xs, y :: ys, h => by rw [List.zip_cons_cons, List.map_cons, zip_snd (by simpa using h)]
theorem toR_reads {v : V} {d : D} {u : Value} {p : PyData} (I : Inv X pins σ H s) (t : StRep X.mg T ι av H η) (r : Rep X.mg ι av H v d) (ru : RelV v u) (h : toR η d = some p) :
    ∃ as, Reads s.heap u p as ∧ (p.hasDict = true → sysModules ∉ as) := by
  by_cases hd : ∃ ks xs, d = .dK ks xs
  · obtain ⟨ks, xs, rfl⟩ := hd
    simp only [toR] at h
    split at h
    rotate_left
    · cases h
    rename_i hlx
    obtain ⟨ps, h1, rfl⟩ := Option.map_eq_some_iff.mp h
    cases r with
    | @dK a _ vs _ e hl n m q =>
      cases (show u = .ref a from ru)
      obtain ⟨_, hs, ws, kv, o, es, ep, hg, hx, hdt, _, hp, _⟩ := dk_rd I.hok e
      obtain ⟨k1, k2⟩ := kv_vals kv
      rw [zip_fst hl] at k1
      rw [zip_snd hl] at k2
      obtain ⟨p1, p2⟩ := pairs_reads (s := s) hp
      obtain ⟨q1, q2⟩ := toSs_reads (s := s) q k2 h1
      refine ⟨a :: [] ++ [], .dict hg hx.1 hdt (as := []) (bs := []) ?_ ?_, fun _ z => ?_⟩
      · rw [zip_fst (by rw [List.length_map, q2]; exact hlx), ← k1]
        exact p1
      · rw [zip_snd (by rw [List.length_map, q2]; exact hlx), p2]
        exact q1
      · have z : sysModules ∈ [a] := z
        have := List.mem_singleton.mp z
        rw [this, beq_self_eq_true] at hs
        cases hs
  · have h2 : toP η d = some p := by
      cases d with
      | dK ks xs => exact absurd ⟨ks, xs, rfl⟩ hd
      | _ => exact h
    obtain ⟨as, q⟩ := Dp.reads I p v u (Rep.dpη t r h2) ru
    refine ⟨as, q, fun z => ?_⟩
    rw [toP_nd h2] at z
    cases z
end
section
variable {X : Cx} {T : List (Addr × Str)} {E : XK} {k : Nat}
theorem c_repr (hg : X.A.guards = some []) (hu : X.A.units + 70 < cLine) : CallR X (.builtin "repr") (rCl X.mg T dRepr) := by
  intro pins s σ H xs us Q I r ⟨ι, av, η, ds, d, t, q, e, w⟩
  unfold dRepr at e
  split at e
  · rename_i d0
    split at e
    · rename_i p hp
      split at e
      · rename_i hc
        obtain ⟨hs, hdp, hz⟩ := hc
        cases e
        obtain ⟨v, rfl, rv⟩ := q.one
        obtain ⟨u, rfl, ru⟩ := r.one
        obtain ⟨as, rd, hsm⟩ := toR_reads I t rv ru hp
        have fin : ∀ (h' : Heap) (u' : Tok) (tk : Nat), (∀ b o, s.heap.get? b = some o → h'.get? b = some o) → EP X pins σ Q (.str p.shown u') { s with heap := h', toks := tk } := fun h' u' tk kp =>
          ⟨.str p.shown, H, I.kept kp, ⟨_, rfl⟩, w _ H (.str _) t (.refl _ _)⟩
        cases rd with
        | none => exact PySem.P.repr_of_none (fin _ _ _ fun _ _ z => z)
        | bool b => exact PySem.P.repr_of_bool (fin _ _ _ fun _ _ z => z)
        | int i t' => exact PySem.P.repr_of_int (of_decide_eq_true hs) (fin _ _ _ fun _ _ z => z)
        | str x t' => exact PySem.P.repr_of_str (fin _ _ _ fun _ _ z => z) hz
        | list h1 h2 h3 h4 => exact repr_of_reads' (.list h1 h2 h3 h4) hs hsm hg (by omega) (fun _ _ z => z) fin hz
        | tuple h1 h2 h3 h4 => exact repr_of_reads' (.tuple h1 h2 h3 h4) hs hsm hg (by omega) (fun _ _ z => z) fin hz
        | dict h1 h2 h3 h4 h5 => exact repr_of_reads' (.dict h1 h2 h3 h4 h5) hs hsm hg (by omega) (fun _ _ z => z) fin hz
      · cases e
    · cases e
  · cases e
end
end Dn
set_option Elab.async false
set_option linter.all false
set_option maxRecDepth 100000
/-! Dn, 13: the rules in short; defs by name. -/
namespace Dn
open PySem PySem.Spec PyProof.Rows L2

section
variable {X : Cx} {T : List (Addr × Str)} {E : XK} {k : Nat}
theorem Good.hu (G : Good X k E) : X.A.units + 70 < cLine := by
  have := G.room.un
  omega
theorem Good.hu65 (G : Good X k E) : X.A.units + 65 < cLine := by
  have := G.room.un
  omega
theorem PW.pt {e : Expr} {t : TT} (h : PW X e t) : PT X e t := ⟨fun pins s σ H Q I w => h.run _ pins s σ H Q I w⟩
theorem v_ (i : Nat) {x : Str} {pos : Pos} (hN : X.N[i]? = some x := by rfl) (hv : Vis X.env.scope x := by first | exact Or.inl rfl | exact Or.inr (Or.inl rfl) | exact Or.inr (Or.inr rfl)) (hd : (x == ("__debug__" : Str)) = false := by decide)
    (hcd : (x == ("__classdict__" : Str)) = false := by decide) : PE X (.Name x pos) (tE X.mg T E (fVar i)) := d_var hN hv hd hcd
theorem gi_ {x : Str} {i : Int} {pos : Pos} (hm : ∃ t, X.mg x = some (.int i t)) (hg : Gl X x := by rfl) (hd : (x == ("__debug__" : Str)) = false := by decide) : PE X (.Name x pos) (tE X.mg T E (fC (.int i))) := d_globI hg hm.choose_spec hd
theorem gs_ {x z : Str} {pos : Pos} (hm : ∃ t, X.mg x = some (.str z t)) (hg : Gl X x := by rfl) (hd : (x == ("__debug__" : Str)) = false := by decide) : PE X (.Name x pos) (tE X.mg T E (fC (.str z))) := d_globS hg hm.choose_spec hd
theorem n_ (nd : X.N.Nodup) (i : Nat) {x : Str} {pos : Pos} (hi : X.N[i]? = some x := by rfl) (hx : Loc X.env.scope x := by first | exact Or.inl rfl | exact Or.inr rfl) (hf : X.fn x = true ∨ X.env.scope.names.lookup x = some .local := by first | exact .inl rfl | exact .inr rfl) : PG X (.Name x pos) (tTg X.mg T [i] E (gN i)) := t_name nd hi hx hf
theorem st_ (G : Good X k E) (i : Nat) {x : Str} {e : Expr} {pos pos' : Pos} {f : FE} (he : PE X e (tE X.mg T E f)) (hi : X.N[i]? = some x := by rfl) (hx : Loc X.env.scope x := by first | exact Or.inl rfl | exact Or.inr rfl) (hs : swapsWith e (some (.Name x pos')) pos.line X.env = pure false := by rfl)
    (hf : X.fn x = true ∨ X.env.scope.names.lookup x = some .local := by first | exact .inl rfl | exact .inr rfl) : PS X (.Assign [.Name x pos'] e pos) (tS X.mg T E (sSet i f)) := s_set G.nd hi hx he hs hf
end

/-! ### defs by name -/
structure Fn1 (P : Program) (w : World) (K : PySem.W.Frag) (mg : Str → Option Value) (base : Heap) (T : List (Addr × Str)) (k : Nat) (x : Str) (st : Stmt) (ps : List Str) (φ : FF) : Prop where
  ex : ∃ fd, FnG P w K mg base T k (He.ga K x) fd ps φ ∧ Binds K fd ps [] ∧ FunD K x x (defArgs st) (defBody st) (defScope st) [] [] (He.ga K x) fd
  g : mg x = some (.ref (He.ga K x))
theorem Fn1.mono {P : Program} {w : World} {K : PySem.W.Frag} {mg : Str → Option Value} {base : Heap} {T : List (Addr × Str)} {j k : Nat} {x : Str} {st : Stmt} {ps : List Str} {φ : FF} (F : Fn1 P w K mg base T j x st ps φ) (h : j ≤ k) : Fn1 P w K mg base T k x st ps φ := by
  obtain ⟨fd, a, b, c⟩ := F.ex
  exact ⟨⟨fd, a.mono h, b, c⟩, F.g⟩
theorem Fn1.up {P : Program} {w : World} {K : PySem.W.Frag} {mg : Str → Option Value} {base : Heap} {T : List (Addr × Str)} {j k : Nat} {x : Str} {st : Stmt} {ps : List Str} {φ : FF} (F : Fn1 P w K mg base T j x st ps φ) (h : j ≤ k := by decide) : Fn1 P w K mg base T k x st ps φ := F.mono h
theorem Fn1.to {P : Program} {w : World} {K : PySem.W.Frag} {mg : Str → Option Value} {base : Heap} {T : List (Addr × Str)} {k : Nat} {x : Str} {st : Stmt} {ps : List Str} {φ ψ : FF} (F : Fn1 P w K mg base T k x st ps φ) (h : ∀ ds η, ψ ds η ≠ .stk → φ ds η = ψ ds η) : Fn1 P w K mg base T k x st ps ψ := by
  obtain ⟨fd, a, b, c⟩ := F.ex
  exact ⟨⟨fd, a.to h, b, c⟩, F.g⟩
section
variable {P : Program} {w : World} {K : PySem.W.Frag} {mg : Str → Option Value} {base : Heap} {T : List (Addr × Str)} {k : Nat} {x : Str} {st : Stmt} {N ps : List Str} {fs : FS}
/-- how the arguments are bound -/
def BindOk (x : Str) (st : Stmt) (ps : List Str) : Prop := ∀ (kV doc pm : Value) (an : Option Addr) (cdv ct : Value) (us : List Value), us.length = ps.length → bindArgs (PySem.W.fnOf x x (defArgs st) (defBody st) (defScope st) .none kV doc pm an cdv ct) ⟨us, []⟩ = pure (ps.zip us)
theorem Fn1.of (hD : ∃ fd, FunD K x x (defArgs st) (defBody st) (defScope st) [] [] (He.ga K x) fd) (g : mg x = some (.ref (He.ga K x))) (S : FnScope N ps (defScope st)) (hb : BindOk x st ps)
    (hbody : ∀ (cdv : Value) (A : Around) (outer : List Env) (s : Shared) (H : Hp) (E : XK), Good (bx P w K mg base N x (defScope st) (He.ga K x) cdv A outer s H E) k E → PSs (bx P w K mg base N x (defScope st) (He.ga K x) cdv A outer s H E) (defBody st) (tS mg T E fs)) :
    Fn1 P w K mg base T (k + 1) x st ps (bodyF N.length fs) := by
  obtain ⟨fd, F⟩ := hD
  refine ⟨⟨fd, ?_, FunD.bindsN F hb, F⟩, g⟩
  obtain ⟨oc, od, dV, kV, doc, pm, an, cdv, ct, osl, rfl, lk, hcd, _, _⟩ := F.ex
  exact fn_of lk hcd S fun A outer s H E G => hbody cdv A outer s H E G
theorem Fn1.keep (hD : ∃ fd, FunD K x x (defArgs st) (defBody st) (defScope st) [] [] (He.ga K x) fd) (g : mg x = some (.ref (He.ga K x))) (S : FnScope N ps (defScope st)) (hb : BindOk x st ps)
    (hbody : ∀ (cdv : Value) (A : Around) (outer : List Env) (s : Shared) (H : Hp) (E : XK), Good (bx P w K mg base N x (defScope st) (He.ga K x) cdv A outer s H E) k E → PSs (bx P w K mg base N x (defScope st) (He.ga K x) cdv A outer s H E) (defBody st) (tS mg T E fs)) :
    Fn1 P w K mg base T (k + 1) x st ps (bodyK N.length fs) := by
  obtain ⟨fd, F⟩ := hD
  refine ⟨⟨fd, ?_, FunD.bindsN F hb, F⟩, g⟩
  obtain ⟨oc, od, dV, kV, doc, pm, an, cdv, ct, osl, rfl, lk, hcd, _, _⟩ := F.ex
  exact fn_keep lk hcd S fun A outer s H E G => hbody cdv A outer s H E G
/-- no promise -/
theorem Fn1.stk (hD : ∃ fd, FunD K x x (defArgs st) (defBody st) (defScope st) [] [] (He.ga K x) fd) (g : mg x = some (.ref (He.ga K x))) (hb : BindOk x st ps) : Fn1 P w K mg base T k x st ps fun _ _ => .stk := by
  obtain ⟨fd, F⟩ := hD
  exact ⟨⟨fd, FnG.stk, FunD.bindsN F hb, F⟩, g⟩
end
section
variable {X : Cx} {T : List (Addr × Str)} {E : XK} {k : Nat} {x : Str} {st : Stmt} {ps : List Str} {φ : FF} {p pos : Pos} {e : Expr} {es : List Expr} {g : FA}
theorem ca_ (G : Good X k E) (F : Fn1 X.prog X.w X.K X.mg X.base T k x st ps φ) (ha : PA X (e :: es) (tA X.mg T E g)) (hg : Gl X x := by rfl) (hdb : (x == ("__debug__" : Str)) = false := by decide) (he : starEach (e :: es) X.env = (false, eval e X.env) :: starEach es X.env := by rfl) (hpl : (backTo pos (starEach es X.env)).any (·.1) = false := by rfl) :
    PE X (.Call (.Name x p) (e :: es) [] pos) (tE X.mg T E (fCa ps.length φ g)) := by
  obtain ⟨fd, a, b, c⟩ := F.ex
  exact d_call G a hg F.g c.kp b ha hdb he hpl
end
theorem owns_bx {P : Program} {w : World} {K : PySem.W.Frag} {mg : Str → Option Value} {base : Heap} {N : List Str} {qual : Str} {scope : Scope} {f : Addr} {cd : Value} {A : Around} {outer : List Env} {s : Shared} {H : Hp} {E : XK} :
    PassesOwn (model (bx P w K mg base N qual scope f cd A outer s H E).prog (bx P w K mg base N qual scope f cd A outer s H E).w) (bx P w K mg base N qual scope f cd A outer s H E).A (bx P w K mg base N qual scope f cd A outer s H E).env (bx P w K mg base N qual scope f cd A outer s H E).xe :=
  passes_of (X := bx P w K mg base N qual scope f cd A outer s H E) (K := fun e s'' => L2.CX P w outer H s E e s'') (E₁ := fun e s'' => L2.CX P w outer H s E e s'') rfl
/-! ### names for the built-ins -/
theorem bt_repr : bootBuiltins "repr" = some (.builtin "repr") := by first | rfl | kernel_rfl
theorem bt_all : bootBuiltins "all" = some (.builtin "all") := by first | rfl | kernel_rfl
theorem bt_any : bootBuiltins "any" = some (.builtin "any") := by first | rfl | kernel_rfl
theorem bt_sum : bootBuiltins "sum" = some (.builtin "sum") := by first | rfl | kernel_rfl
theorem bt_max : bootBuiltins "max" = some (.builtin "max") := by first | rfl | kernel_rfl
theorem bt_min : bootBuiltins "min" = some (.builtin "min") := by first | rfl | kernel_rfl
theorem bt_len : bootBuiltins "len" = some (.builtin "len") := by first | rfl | kernel_rfl
theorem bt_abs : bootBuiltins "abs" = some (.builtin "abs") := by first | rfl | kernel_rfl
theorem bt_int : bootBuiltins "int" = some (.type "int") := by first | rfl | kernel_rfl
theorem bt_str : bootBuiltins "str" = some (.type "str") := by first | rfl | kernel_rfl
theorem bt_tuple : bootBuiltins "tuple" = some (.type "tuple") := by first | rfl | kernel_rfl
theorem bt_list : bootBuiltins "list" = some (.type "list") := by first | rfl | kernel_rfl
theorem bt_bool : bootBuiltins "bool" = some (.type "bool") := by first | rfl | kernel_rfl
end Dn
set_option Elab.async false
set_option linter.all false
set_option maxRecDepth 100000
/-! Dn, 14: calls with keywords (all parameters given, in their order). -/
namespace Dn
open PySem PySem.Spec PyProof.Rows L2
/-- n positional, the rest by name -/
def gd_ (n : Nat) {α : Type} (us ws : List α) : List α := if us.length = n then us ++ ws else []
def KBindOk (x : Str) (st : Stmt) (ps : List Str) (n : Nat) : Prop := ∀ (kV doc pm : Value) (an : Option Addr) (cdv ct : Value) (us ws : List Value), us.length = n → us.length + ws.length = ps.length →
  bindArgs (PySem.W.fnOf x x (defArgs st) (defBody st) (defScope st) .none kV doc pm an cdv ct) ⟨us, (ps.drop n).zip ws⟩ = pure (ps.zip (us ++ ws))
theorem kbinds_of {K : PySem.W.Frag} {x : Str} {st : Stmt} {ps : List Str} {n : Nat} {f : Addr} {fd : FuncData} (h : KBindOk x st ps n) (hp : ps ≠ []) (F : FunD K x x (defArgs st) (defBody st) (defScope st) [] [] f fd) : KBinds K fd ps (ps.drop n) (gd_ n) (gd_ n) := by
  refine ⟨fun s us ws _ hl => ?_, fun {vs us zs ws} r q => ?_⟩
  · obtain ⟨oc, od, dV, kV, doc, pm, an, cdv, ct, osl, rfl, lk, hcd, hD, hK⟩ := F.ex
    rcases hD with ⟨_, rfl⟩ | ⟨e, _⟩
    · unfold gd_ at hl ⊢
      by_cases hu : us.length = n
      · rw [if_pos hu] at hl ⊢
        exact .of_eq (h kV doc pm an cdv ct us ws hu (by rw [← List.length_append]; exact hl))
      · rw [if_neg hu] at hl
        cases ps with
        | nil => exact absurd rfl hp
        | cons a b => cases hl
    · exact absurd rfl e
  · unfold gd_
    have hl : vs.length = us.length := r.length
    by_cases hu : us.length = n
    · rw [if_pos hu, if_pos (hl.trans hu)]
      exact r.append q
    · rw [if_neg hu, if_neg fun z => hu (hl.symm.trans z)]
      exact .nil
theorem gd_reps {mg : Str → Option Value} {ι av : List Addr} {H : Hp} {n : Nat} {vs zs : List V} {ds es : List D} (r : Reps mg ι av H vs ds) (q : Reps mg ι av H zs es) : Reps mg ι av H (gd_ n vs zs) (gd_ n ds es) := by
  unfold gd_
  have hl := r.length
  by_cases hu : vs.length = n
  · rw [if_pos hu, if_pos (hl.symm.trans hu)]
    exact r.append q
  · rw [if_neg hu, if_neg fun z => hu (hl.trans z)]
    exact .nil
section
variable {X : Cx} {T : List (Addr × Str)} {E : XK} {k n : Nat} {x : Str} {st : Stmt} {ps : List Str} {φ : FF} {p pos : Pos} {e : Expr} {es : List Expr} {kws : List Keyword} {g h : FA}
theorem cak_ (G : Good X k E) (F : Fn1 X.prog X.w X.K X.mg X.base T k x st ps φ) (hb : KBindOk x st ps n) (ha : PA X (e :: es) (tA X.mg T E g)) (hkw : PK X kws (tA X.mg T E h)) (hp : ps ≠ [] := by exact List.cons_ne_nil _ _) (hg : Gl X x := by rfl) (hall : (backToKw pos (keywordEach kws X.env)).all (·.1.isSome) = true := by rfl)
    (hks : (backToKw pos (keywordEach kws X.env)).filterMap (·.1) = ps.drop n := by rfl) (hdb : (x == ("__debug__" : Str)) = false := by decide) (he : starEach (e :: es) X.env = (false, eval e X.env) :: starEach es X.env := by rfl)
    (hpl : ((backTo pos (starEach (e :: es) X.env)).any (·.1) || (backToKw pos (keywordEach kws X.env)).any (·.1.isNone)) = false := by rfl) :
    PE X (.Call (.Name x p) (e :: es) kws pos) (tE X.mg T E (fCaK ps.length (gd_ n) φ g h)) := by
  obtain ⟨fd, a, b, c⟩ := F.ex
  exact d_callK G a hg F.g c.kp (kbinds_of hb hp c) gd_reps ha hkw hall hks hdb he hpl
theorem cak0_ (G : Good X k E) (F : Fn1 X.prog X.w X.K X.mg X.base T k x st ps φ) (hb : KBindOk x st ps 0) (hkw : PK X kws (tA X.mg T E h)) (hp : ps ≠ [] := by exact List.cons_ne_nil _ _) (hg : Gl X x := by rfl) (hall : (backToKw pos (keywordEach kws X.env)).all (·.1.isSome) = true := by rfl)
    (hks : (backToKw pos (keywordEach kws X.env)).filterMap (·.1) = ps.drop 0 := by rfl) (hdb : (x == ("__debug__" : Str)) = false := by decide)
    (hpl : ((backTo pos (starEach [] X.env)).any (·.1) || (backToKw pos (keywordEach kws X.env)).any (·.1.isNone)) = false := by rfl) :
    PE X (.Call (.Name x p) [] kws pos) (tE X.mg T E (fCa ps.length φ h)) := by
  obtain ⟨fd, a, b, c⟩ := F.ex
  have kb := kbinds_of hb hp c
  refine ⟨fun pins s σ H Q I ⟨ρ, η, ι, av, sm, t, w⟩ => ?_⟩
  have ha' := bindG (rl := rlA X.mg) (Qm := fun vs H1 => ∃ ds η₁ ι₁, StRep X.mg T ι₁ av H1 η₁ ∧ Reps X.mg ι₁ av H1 vs ds ∧ ds.length = ps.length ∧ PostG X.mg T (rlE X.mg) ι₁ av H1 E Q (φ ds η₁)) sm t w fun vs ds η₁ ι₁ H₁ e r t1 x1 s1 h1 => by
    by_cases hl : ds.length = ps.length
    · rw [if_pos hl] at h1
      exact ⟨ds, η₁, ι₁, t1, r, hl, h1⟩
    · rw [if_neg hl] at h1
      exact h1.elim
  refine wpAny_Call_Name_kw (ld_glob I hg F.g ?_ hdb)
  refine PySem.W.callWith_KW0 (h₀ := X.base) I.ok.mod.kin c.kp hall (thn (hkw.run pos pins s σ H _ I ha') fun ws s2 ⟨zs, H2, I2, rz, ds, η₂, ι₂, t2, rd, hl, q2⟩ => ⟨I2.kIn, ?_⟩) hpl
  rw [hks]
  have hl' : (gd_ 0 ([] : List Value) ws).length = ps.length := by
    show ws.length = _
    rw [← rz.length, rd.length]
    exact hl
  refine wpAny_call (codeAny_mono (a.run X.A X.stack s2 H2 ⟨[] ++ [], (ps.drop 0).zip ws⟩ ws zs ds η₂ ι₂ av Q E G.room G.gd I2.env0 (kb.to s2 [] ws I2.kIn hl') rz hl t2 rd q2) fun r s' hq => ?_)
  cases r with
  | error e => exact passes_call G.tk (fun _ _ _ _ z => z) pins σ H2 s2 e s' I2 hq
  | ok fl =>
    cases fl with
    | ret u => exact I2.after hq
    | next => exact False.elim hq
    | brk => exact False.elim hq
    | cont => exact False.elim hq
end
end Dn
set_option Elab.async false
set_option linter.all false
set_option maxRecDepth 100000
/-! Dn, 15: enumerate over a tuple. -/
namespace Dn
open PySem PySem.Spec PyProof.Rows L2
set_option maxHeartbeats 1000000 in
/-- the new object of enumerate(v), v's iterator o -/
theorem enum_one {v : Value} {o : Obj} {H : Heap → Prop} (B : Begins v o H) :
    Meets (Builtin.«enumerate.__new__» ⟨[.type "enumerate", v], []⟩) (fun _ R s => H s.heap ∧
      R (.ok (.ret (.ref (s.heap.push o).objs.size))) { s with heap := (s.heap.push o).push { cls := .type "enumerate", data := .fields #[.none, .bool false, .ref s.heap.objs.size, rawInt 0, .none, .none] } }) :=
  .of_wp fun prog w A R s h => by
    obtain ⟨hp, g, d, tk, os⟩ := s
    obtain ⟨h1, h⟩ := h
    have hsub := sub_enumerate
    have it1 : ∀ {A' : Around} {E : Value → Shared → Prop} {Q : Value → Shared → Prop}, Q (.ref hp.objs.size) ⟨hp.push o, g, d, tk, os⟩ → wpAny (model prog w) A' (pyIter v) Q E ⟨hp, g, d, tk, os⟩ :=
      fun q => B.iter prog w _ _ ⟨hp, g, d, tk, os⟩ _ h1 q
    wp_walk using it1
    refine wpAny_stack_any fun st => wpAny_pure ?_
    split
    · rename_i c _ _ _ _ _
      cases (c == Value.type "enumerate")
      · wp_walk using it1
        exact ⟨_, rfl, h⟩
      · wp_walk using it1
        exact ⟨_, rfl, h⟩
    · wp_walk using it1
      exact ⟨_, rfl, h⟩
section
variable {prog : Program} {w : World} {A : Around} {E : Value → Shared → Prop} {s : Shared}
theorem enum_call {v : Value} {o : Obj} {H : Heap → Prop} {Q : Value → Shared → Prop} (B : Begins v o H) (h1 : H s.heap)
    (h : ∀ h', IsEnum h' (s.heap.objs.size + 1) s.heap.objs.size 0 .none → h'.get? s.heap.objs.size = some o → (∀ b u, s.heap.get? b = some u → h'.get? b = some u) → Q (.ref (s.heap.objs.size + 1)) { s with heap := h' }) :
    wpAny (model prog w) A (call (.type "enumerate") [v]) Q E s := by
  refine callType_new F.called_enumerate (by decide) (F.typeCall_enumerate_1 _) (F.newCall_enumerate_1 _) (fun obj => F.args_object_init_2 obj _) F.entry_enumerate_new (enum_one B) ⟨h1, ?_⟩
  have hz : (s.heap.push o).objs.size = s.heap.objs.size + 1 := Heap.size_push ..
  show _ ∧ _
  rw [hz]
  have he : IsEnum ((s.heap.push o).push { cls := .type "enumerate", data := .fields #[.none, .bool false, .ref s.heap.objs.size, rawInt 0, .none, .none] }) (s.heap.objs.size + 1) s.heap.objs.size 0 .none := by
    have := Heap.get?_push_size (s.heap.push o) (o := { cls := .type "enumerate", data := .fields #[.none, .bool false, .ref s.heap.objs.size, rawInt 0, .none, .none] }) rfl
    rw [hz] at this
    exact this
  exact ⟨⟨_, he, rfl⟩, h _ he (Heap.get?_push_of_some _ (Heap.get?_push_size _ B.free)) fun b u x => Heap.get?_push_of_some _ (Heap.get?_push_of_some _ x)⟩
end
/-- the tuple at a, each item in a new pair with its place -/
def IteT (K : PySem.W.Frag) (a : Addr) : It :=
  ⟨fun i H => ∃ (xs : List V) (x : V), SqT K H a xs ∧ xs[i]? = some x, fun i H v H' => ∃ p x, v = .ref p ∧ H p = none ∧ H' = upd H p (.tup [.int (i : Nat), x]) ∧ ∀ xs, SqT K H a xs → xs[i]? = some x, fun i H => ∃ xs : List V, SqT K H a xs ∧ xs.length ≤ i⟩
theorem tupIter_ne {h : Heap} {it a : Addr} {i : Nat} {items : Array Value} (x : h.IsTupleIter it a i) (y : h.IsTuple a items) : a ≠ it := fun z => by
  obtain ⟨o, e, c, _⟩ := x
  obtain ⟨o', e', c', _⟩ := y
  rw [z, e] at e'
  cases e'
  have c2 := c.symm.trans c'
  injection c2 with c3
  exact absurd c3 (by decide)
theorem turn_enumT {P : Program} {w : World} {K : PySem.W.Frag} {elts : List Expr} {kk : Nat} {tpos : Pos} (a e it : Addr) :
    Turn P w K (.Tuple elts kk tpos) (IteT K a) [e, it] e (fun i h => (∃ old, IsEnum h e it ((i : Nat) : Int) old) ∧ h.IsTupleIter it a i ∧ e ≠ it) where
  mem := by simp
  obj := fun i h st b hb => by
    obtain ⟨⟨old, he⟩, ⟨o, ho, hc, hd⟩, _⟩ := st
    rcases (by simpa using hb : b = e ∨ b = it) with z | z
    · rw [z]
      exact ⟨_, he, fun v q => nomatch q⟩
    · rw [z]
      exact ⟨o, ho, fun v q => by rw [hd] at q; cases q⟩
  keep := fun i h h' st k => let ⟨⟨old, he⟩, hi, hne⟩ := st; ⟨⟨old, k e (by simp) _ he⟩, hi.at fun o q => k it (by simp) o q, hne⟩
  item := by
    intro X hP hw hK hc i pins s σ H E I hf st hg
    subst hP hw hK
    obtain ⟨⟨old, he⟩, hit, hne⟩ := st
    obtain ⟨xs, x, hq, hx⟩ := hg
    obtain ⟨its, rv, p, hz⟩ := I.tuple hq
    obtain ⟨u, hu, ru⟩ := rv.get hx
    have p' : s.heap.IsTuple a its.toArray := p
    have ha : a ≠ it := tupIter_ne hit p'
    have hel : e < s.heap.objs.size := Heap.lt_size he
    have hil : it < s.heap.objs.size := by obtain ⟨_, q, _⟩ := hit; exact Heap.lt_size q
    have hea : e ≠ a := fun z => by
      obtain ⟨o', e', c', _⟩ := p'
      have he2 : s.heap.get? e = some _ := he
      rw [z, e'] at he2
      cases he2
      have c2 : Value.type "enumerate" = Value.type "tuple" := c'
      injection c2 with c3
      exact absurd c3 (by decide)
    have D := Draws.tuple (prog := X.prog) (w := X.w) (A := X.A.in1) (I.ok.hd hc) it a ha its.toArray
    have hlt : i < its.toArray.size := by
      have := (List.getElem?_eq_some_iff.mp hu).1
      simpa using this
    refine wpAny_pyNext_enum_itemC D he ⟨hit, p'⟩ hlt hne (fun z => ?_) fun x' h' tk hx' ho hst hT hsz hk => ?_
    · rcases List.mem_cons.mp z with z | z
      · exact hne z
      · exact hea (List.mem_singleton.mp z)
    have ex : x' = u := by
      have hx2 : its.toArray[i]? = some x' := hx'
      rw [show its.toArray[i]? = some u by simpa using hu] at hx2
      exact (Option.some.inj hx2).symm
    subst ex
    refine ⟨_, rfl, wpAny_letOwnedTupleGo_enum (s := { s with heap := h', toks := tk + 1 }) ho fun h'' he' sb => ?_⟩
    have hT2 : h''.get? s.heap.objs.size = some { cls := .type "tuple", data := .seq #[.int i tk, x'] } := (sb.2 _ (Nat.ne_of_gt hel)).trans hT
    have new : ObjOk X.prog X.w (upd H s.heap.objs.size (.tup [.int (i : Nat), x])) h'' s.heap.objs.size (.tup [.int (i : Nat), x]) :=
      ⟨by show 2 ≤ sizeLine; decide, [.int i tk, x'], .cons ⟨_, rfl⟩ (.cons ru .nil), ⟨_, hT2, rfl, _, rfl⟩⟩
    have I1 : Inv X pins σ (upd H s.heap.objs.size (.tup [.int (i : Nat), x])) { s with heap := h'', toks := tk + 1 } :=
      I.turnedNew (ch := [e, it]) (fun b ob hb q => (sb.2 b (fun z => hb (by simp [z]))).trans (hk b ob (fun z => hb (by simp [z])) (fun z => hb (by simp [z])) q)) hf (Nat.le_refl _) new
    refine ⟨.ref s.heap.objs.size, _, I1, rfl, ⟨_, x, rfl, I.hok.fresh (Nat.le_refl _), rfl, fun ys hy => by rw [I.tuple_inj hy hq]; exact hx⟩, ⟨⟨x', ?_⟩, hst.1.at fun o q => (sb.2 it (Ne.symm hne)).trans q, hne⟩, fun b hb => ?_⟩
    · have e1 : ((i + 1 : Nat) : Int) = (i : Int) + 1 := by omega
      rw [e1]
      exact he'
    · have hb' : b < s.heap.objs.size := by
        rcases (by simpa using hb : b = e ∨ b = it) with z | z
        · rw [z]; exact hel
        · rw [z]; exact hil
      rw [upd_ne (Nat.ne_of_lt hb')]
      exact (hf b hb).1
  done := by
    intro X hP hw hK hc i pins s σ H E I hf st hg
    subst hP hw hK
    obtain ⟨⟨old, he⟩, hit, hne⟩ := st
    obtain ⟨xs, hq, hx⟩ := hg
    obtain ⟨its, rv, p, hz⟩ := I.tuple hq
    have p' : s.heap.IsTuple a its.toArray := p
    have ha : a ≠ it := tupIter_ne hit p'
    obtain ⟨f0, f1, f2, f3, f4, f5⟩ := hf it (by simp)
    have hl := rv.length
    have hend : its.toArray[i]? = none := by
      have : its.length ≤ i := by omega
      simp [this]
    have D : Draws X.prog X.w X.A.in1 it [it, a] 0 (fun _ _ => False) (fun _ h => h.IsTupleIter it a i ∧ h.IsTuple a its.toArray) := {
      live := fun _ _ st => let ⟨o, ho, _⟩ := st.1; ⟨o, ho⟩
      frame := fun _ _ _ st hk => ⟨st.1.at fun o e => hk it (by simp) o e, st.2.at fun o e => hk a (by simp) o e⟩
      item := fun j _ _ _ hj => absurd hj (Nat.not_lt_zero j)
      done := fun s Q E st hE => wpAny_nextOf_tuple_end (I.ok.hd hc) st.1 st.2 hend hE }
    exact wpAny_pyNext_enum_endD D he ⟨hit, p'⟩ fun h' eb => ⟨rfl, I.turned (t' := s.toks) (fun b o hb q => eb b o hb q) f0 f1 f3 f4 f5⟩
  self := fun A i s Q E st h => let ⟨⟨_, he⟩, _⟩ := st; wpAny_pyIter_enum he h
def iEnumA (K : PySem.W.Frag) (ta : TA) : TI := fun σ H R => ta σ H fun vs H1 => ∃ a xs, vs = [.ref a] ∧ ((SqL K H1 a xs ∧ R (Ite K a) H1) ∨ (SqT K H1 a xs ∧ R (IteT K a) H1))
theorem pi_enumA {X : Cx} {e : Expr} {ta : TA} {p pos tpos : Pos} {elts : List Expr} {kk : Nat} (hg : Gl X "enumerate") (hm : X.mg "enumerate" = none) (ha : PA X [e] ta) (hs : starEach [e] X.env = [(false, eval e X.env)] := by rfl) :
    PI X (.Tuple elts kk tpos) (.Call (.Name "enumerate" p) [e] [] pos) (iEnumA X.K ta) := by
  refine ⟨fun pins s σ H R I h => ?_⟩
  refine Call_ (ld_blt I hg hm boot_enumerate (PyProof.Rows.callWith_type1 (thn (ha.run pos pins s σ H _ I h) fun us s1 ⟨vs, H1, I1, r1, q1⟩ => ?_) hs rfl))
  obtain ⟨a, xs, ex, q1⟩ := q1
  subst ex
  obtain ⟨u, rfl, r⟩ := r1.one
  cases (show u = Value.ref a from r)
  have fr : ∀ b ∈ [s1.heap.objs.size + 1, s1.heap.objs.size], FpOk X pins H1 b := fun b hb => by
    have hle : s1.heap.objs.size ≤ b := by
      rcases (by simpa using hb : b = s1.heap.objs.size + 1 ∨ b = s1.heap.objs.size) with z | z
      · rw [z]; exact Nat.le_add_right _ _
      · rw [z]; exact Nat.le_refl _
    exact I1.fpOk hle (I1.hok.fresh hle)
  rcases q1 with ⟨hq, q⟩ | ⟨hq, q⟩
  · obtain ⟨its, rv, p', hz⟩ := I1.list hq
    refine enum_call (begins_list a its.toArray) p'.isList fun h' he hit hk => wpAny_pyIter_enum he ?_
    have I2 : Inv X pins σ H1 { s1 with heap := h' } := I1.kept (t' := s1.toks) hk
    exact ⟨s1.heap.objs.size + 1, [s1.heap.objs.size + 1, s1.heap.objs.size], _, _, H1, rfl, I2, turn_enum a (s1.heap.objs.size + 1) s1.heap.objs.size, ⟨⟨.none, he⟩, ⟨_, hit, rfl, rfl⟩, Nat.succ_ne_self _⟩, fr, q⟩
  · obtain ⟨its, rv, p', hz⟩ := I1.tuple hq
    refine enum_call (begins_tuple a its.toArray) (show s1.heap.IsTuple a its.toArray from p') fun h' he hit hk => wpAny_pyIter_enum he ?_
    have I2 : Inv X pins σ H1 { s1 with heap := h' } := I1.kept (t' := s1.toks) hk
    exact ⟨s1.heap.objs.size + 1, [s1.heap.objs.size + 1, s1.heap.objs.size], _, _, H1, rfl, I2, turn_enumT a (s1.heap.objs.size + 1) s1.heap.objs.size, ⟨⟨.none, he⟩, ⟨_, hit, rfl, rfl⟩, Nat.succ_ne_self _⟩, fr, q⟩
/-! ### by values -/
def numD : Nat → List D → List D
  | _, [] => []
  | i, d :: ds => .tup [.int (i : Nat), d] :: numD (i + 1) ds
theorem numD_get : ∀ (ds : List D) (i k : Nat), (numD i ds)[k]? = ds[k]?.map fun d => .tup [.int ((i + k : Nat) : Int), d]
  | [], i, k => by simp [numD]
  | d :: ds, i, 0 => by simp [numD]
  | d :: ds, i, k + 1 => by
    simp only [numD, List.getElem?_cons_succ]
    rw [numD_get ds (i + 1) k, show i + 1 + k = i + (k + 1) by omega]
def itEn (ds : List D) : Option ItD := match ds with
  | [.tup xs] => some (itF (numD 0 xs))
  | [.lst xs] => some (itF (numD 0 xs))
  | _ => none
def fEnum (g : FA) : FI := fun ρ η => (g ρ η).bind fun ds η1 => R.of η1 (itEn ds)
section
variable {mg : Str → Option Value} {T : List (Addr × Str)} {ι av : List Addr} {H : Hp}
theorem itok_enumL {K : PySem.W.Frag} {a : Addr} {vs : List V} {ds : List D} (e : H a = some (.lst vs)) (n : a ∉ ι) (m : a ∉ av) (q : Reps mg ι av H vs ds) : ItOk mg T ι av H (Ite K a) (itF (numD 0 ds)) := by
  intro k ι' av' H' η' x hv t
  have qq := q.mv (Mv.of x hv)
  have sq : SqL K H' a vs := SqL.of (x.keep a _ e n nofun).1
  show match some (numD 0 ds)[k]? with | none => True | some none => _ | some (some d) => _
  rw [numD_get]
  cases ed : ds[k]? with
  | none => exact ⟨vs, sq, by rw [q.length]; exact List.getElem?_eq_none_iff.mp ed⟩
  | some d =>
    obtain ⟨v, ev, r⟩ := qq.get ed
    refine ⟨⟨vs, v, sq, ev⟩, fun y H'' ⟨p, v1, ey, hp, eh, h1⟩ => ?_⟩
    subst eh ey
    have z1 := h1 vs sq
    rw [ev] at z1
    cases z1
    rw [Nat.zero_add]
    exact new_pair t (.int _) r hp
theorem itok_enumT {K : PySem.W.Frag} {a : Addr} {vs : List V} {ds : List D} (e : H a = some (.tup vs)) (n : a ∉ ι) (m : a ∉ av) (q : Reps mg ι av H vs ds) : ItOk mg T ι av H (IteT K a) (itF (numD 0 ds)) := by
  intro k ι' av' H' η' x hv t
  have qq := q.mv (Mv.of x hv)
  have sq : SqT K H' a vs := SqT.of (x.keep a _ e n nofun).1
  show match some (numD 0 ds)[k]? with | none => True | some none => _ | some (some d) => _
  rw [numD_get]
  cases ed : ds[k]? with
  | none => exact ⟨vs, sq, by rw [q.length]; exact List.getElem?_eq_none_iff.mp ed⟩
  | some d =>
    obtain ⟨v, ev, r⟩ := qq.get ed
    refine ⟨⟨vs, v, sq, ev⟩, fun y H'' ⟨p, v1, ey, hp, eh, h1⟩ => ?_⟩
    subst eh ey
    have z1 := h1 vs sq
    rw [ev] at z1
    cases z1
    rw [Nat.zero_add]
    exact new_pair t (.int _) r hp
end
section
variable {X : Cx} {T : List (Addr × Str)} {E : XK}
theorem i_enum {e : Expr} {g : FA} {p pos tpos : Pos} {elts : List Expr} {kk : Nat} (hg : Gl X "enumerate") (hm : X.mg "enumerate" = none) (ha : PA X [e] (tA X.mg T E g)) (hs : starEach [e] X.env = [(false, eval e X.env)] := by rfl) :
    PI X (.Tuple elts kk tpos) (.Call (.Name "enumerate" p) [e] [] pos) (tI X.mg T E (fEnum g)) :=
  PI.imp (pi_enumA hg hm ha hs) fun σ H Q ⟨ρ, η, ι, av, s, t, h⟩ => bindG s t h fun vs ds η₁ ι₁ H₁ e r t1 x1 s1 h1 => by
    cases eo : itEn ds with
    | none => rw [eo] at h1; exact h1.elim
    | some I =>
      rw [eo] at h1
      unfold itEn at eo
      split at eo
      · cases eo
        obtain ⟨v, ev, rv⟩ := r.one
        cases rv with
        | tup e1 n m q => exact ⟨_, _, ev, .inr ⟨SqT.of e1, h1 _ H₁ ι₁ (itok_enumT e1 n m q) t1 (.refl _ _)⟩⟩
      · cases eo
        obtain ⟨v, ev, rv⟩ := r.one
        cases rv with
        | lst e1 n m q => exact ⟨_, _, ev, .inl ⟨SqL.of e1, h1 _ H₁ ι₁ (itok_enumL e1 n m q) t1 (.refl _ _)⟩⟩
      · cases eo
end
end Dn
set_option Elab.async false
set_option linter.all false
set_option maxRecDepth 100000
/-! Dn, 16: a for loop over the keys of a dict with tuple keys, the dict frozen. -/
namespace Dn
open PySem PySem.Spec PyProof.Rows L2
def keyD : Key → D
  | .inl i => .int i
  | .inr x => .str x
theorem key_reps {mg : Str → Option Value} {ι av : List Addr} {H : Hp} : ∀ k : List Key, Reps mg ι av H (k.map kV) (k.map keyD)
  | [] => .nil
  | .inl i :: k => .cons (.int i) (key_reps k)
  | .inr x :: k => .cons (.str x) (key_reps k)
/-- the body runs while the dict is locked: no error may come -/
def noRse : RS → RS
  | .rse _ _ _ => .stk
  | r => r
noncomputable def sForD (i : Nat) (g : FG) (b : FS) : FS := fun ρ η => match ρ[i]? with
  | some (some (.dT ks _)) => noRse (limS fun n => forN (itF (ks.map fun k => .tup (k.map keyD))) g b n 0 ρ η)
  | _ => .stk
section
variable {mg : Str → Option Value} {T : List (Addr × Str)} {ι av : List Addr} {H : Hp}
theorem itok_keysT {d : Addr} {od : Obj} {ks : List (List Key)} {vs : List V} (hl : ks.length = vs.length) (e : H d = some (.frz od (.dT (ks.zip vs)))) (n : d ∉ ι) : ItOk mg T ι av H (Itkt d od (ks.zip vs)) (itF (ks.map fun k => .tup (k.map keyD))) := by
  intro k ι' av' H' η' x hv t
  have e' := (x.keep d _ e n nofun).1
  have hz : (ks.zip vs).length = ks.length := by rw [List.length_zip, ← hl, Nat.min_self]
  show match some (ks.map fun k => D.tup (k.map keyD))[k]? with | none => True | some none => _ | some (some d) => _
  rw [List.getElem?_map]
  cases ek : ks[k]? with
  | none => exact ⟨e', by rw [hz]; exact List.getElem?_eq_none_iff.mp ek⟩
  | some kk =>
    have hk : k < ks.length := (List.getElem?_eq_some_iff.mp ek).1
    refine ⟨⟨e', by rw [hz]; exact hk⟩, fun y H'' ⟨eh, k2, v, q, h1, h2, h3⟩ => ?_⟩
    subst eh h2
    have ek2 : k2 = kk := by
      have := congrArg (Option.map (·.1)) h1
      rw [← List.getElem?_map, zip_fst hl, ek] at this
      exact (Option.some.inj this).symm
    subst ek2
    have nι : q ∉ ι' := fun z => by
      obtain ⟨m, rm⟩ := t.mem z
      obtain ⟨o, e2, e3⟩ := rm.there
      rw [h3] at e2
      cases e2
      rcases e3 with ⟨_, z⟩ | ⟨_, z⟩ | ⟨_, z⟩ <;> cases z
    have nv : q ∉ av' := fun z => by
      obtain ⟨⟨xs, e2⟩, _⟩ := t.av_ q z
      rw [h3] at e2
      cases e2
    exact ⟨.tup h3 nι nv (key_reps _), t, .refl _ _⟩
/-- a frozen dict locked, unlocked -/
theorem Mv.lock {d : Addr} {od : Obj} {kvs : List (List Key × V)} (e : H d = some (.dT kvs)) (n : d ∉ ι) (m : d ∉ av) : Mv ι av H ι av (upd H d (.frz od (.dT kvs))) := by
  refine ⟨⟨[], by simp⟩, fun a o h na ma k1 k2 k3 k4 => ⟨?_, na, ma⟩, fun a o h na ma k kf => ⟨?_, na, ma⟩⟩
  · rw [upd_ne fun z => by rw [z, e] at h; cases h; exact k3 _ rfl]
    exact h
  · by_cases z : a = d
    · rw [z] at h ⊢
      rcases h with h | ⟨u, h⟩ <;> rw [e] at h <;> cases h
      exact .inr ⟨od, upd_same⟩
    · rcases h with h | ⟨u, h⟩
      · exact .inl (by rw [upd_ne z]; exact h)
      · exact .inr ⟨u, by rw [upd_ne z]; exact h⟩
theorem Mv.unlock {d : Addr} {od : Obj} {kvs : List (List Key × V)} (e : H d = some (.frz od (.dT kvs))) : Mv ι av H ι av (upd H d (.dT kvs)) := by
  refine ⟨⟨[], by simp⟩, fun a o h na ma k1 k2 k3 k4 => ⟨?_, na, ma⟩, fun a o h na ma k kf => ⟨?_, na, ma⟩⟩
  · rw [upd_ne fun z => by rw [z, e] at h; cases h; exact k4 _ _ rfl]
    exact h
  · by_cases z : a = d
    · rw [z] at h ⊢
      rcases h with h | ⟨u, h⟩ <;> rw [e] at h <;> cases h
      · exact (kf _ _ rfl).elim
      · exact .inl upd_same
    · rcases h with h | ⟨u, h⟩
      · exact .inl (by rw [upd_ne z]; exact h)
      · exact .inr ⟨u, by rw [upd_ne z]; exact h⟩
theorem Ext.locked {d : Addr} {od : Obj} {kvs : List (List Key × V)} {ι' : List Addr} {H' : Hp} (e : H d = some (.dT kvs)) (n : d ∉ ι) (x : Ext ι (upd H d (.frz od (.dT kvs))) ι' H') : Ext ι H ι' (upd H' d (.dT kvs)) := by
  have xd := x.keep d _ upd_same n nofun
  refine ⟨x.pre, fun a o h na k => ?_⟩
  by_cases z : a = d
  · rw [z] at h ⊢
    rw [e] at h
    cases h
    exact ⟨upd_same, xd.2⟩
  · obtain ⟨h1, h2⟩ := x.keep a o (by rw [upd_ne z]; exact h) na k
    exact ⟨by rw [upd_ne z]; exact h1, h2⟩
theorem StRep.locked {d : Addr} {od : Obj} {kvs : List (List Key × V)} {η : Store} (e : H d = some (.dT kvs)) (n : d ∉ ι) (m : d ∉ av) (t : StRep mg T ι av H η) : StRep mg T ι av (upd H d (.frz od (.dT kvs))) η :=
  t.mv (Mv.lock e n m) (fun a ha => upd_ne fun z => n (by rw [← z]; exact ha)) (fun a ha => by
    obtain ⟨⟨xs, h⟩, h2⟩ := t.av_ a ha
    exact ⟨⟨xs, by rw [upd_ne fun z => m (by rw [← z]; exact ha)]; exact h⟩, h2⟩) (tabs_upd e nofun nofun t.tab)
theorem StRep.unlocked {d : Addr} {od : Obj} {kvs : List (List Key × V)} {η : Store} (e : H d = some (.frz od (.dT kvs))) (n : d ∉ ι) (m : d ∉ av) (t : StRep mg T ι av H η) : StRep mg T ι av (upd H d (.dT kvs)) η :=
  t.mv (Mv.unlock e) (fun a ha => upd_ne fun z => n (by rw [← z]; exact ha)) (fun a ha => by
    obtain ⟨⟨xs, h⟩, h2⟩ := t.av_ a ha
    exact ⟨⟨xs, by rw [upd_ne fun z => m (by rw [← z]; exact ha)]; exact h⟩, h2⟩) (tabs_upd e nofun nofun t.tab)
theorem lock_post {E : XK} {Dn : Ends} {d : Addr} {od : Obj} {kvs : List (List Key × V)} {r : RS} (e : H d = some (.dT kvs)) (n : d ∉ ι) (m : d ∉ av) (h : PostS mg T ι av H E Dn (noRse r)) :
    PostS mg T ι av (upd H d (.frz od (.dT kvs))) E ⟨fun σ' H' => H' d = some (.frz od (.dT kvs)) ∧ Dn.nx σ' (upd H' d (.dT kvs)), fun v H' => H' d = some (.frz od (.dT kvs)) ∧ Dn.rt v (upd H' d (.dT kvs)), fun σ' H' => H' d = some (.frz od (.dT kvs)) ∧ Dn.bk σ' (upd H' d (.dT kvs)), fun σ' H' => H' d = some (.frz od (.dT kvs)) ∧ Dn.ct σ' (upd H' d (.dT kvs))⟩ r := by
  have go : ∀ {ι' : List Addr} {H' : Hp} {η' : Store}, StRep mg T ι' av H' η' → Ext ι (upd H d (.frz od (.dT kvs))) ι' H' → H' d = some (.frz od (.dT kvs)) ∧ StRep mg T ι' av (upd H' d (.dT kvs)) η' ∧ Ext ι H ι' (upd H' d (.dT kvs)) := fun t x => by
    obtain ⟨h1, h2⟩ := x.keep d _ upd_same n nofun
    exact ⟨h1, t.unlocked h1 h2 m, x.locked e n⟩
  cases r with
  | nx ρ η => exact fun σ' H' ι' s t x => let g := go t x; ⟨g.1, h σ' _ ι' (s.mv (Mv.unlock g.1)) g.2.1 g.2.2⟩
  | bk ρ η => exact fun σ' H' ι' s t x => let g := go t x; ⟨g.1, h σ' _ ι' (s.mv (Mv.unlock g.1)) g.2.1 g.2.2⟩
  | ct ρ η => exact fun σ' H' ι' s t x => let g := go t x; ⟨g.1, h σ' _ ι' (s.mv (Mv.unlock g.1)) g.2.1 g.2.2⟩
  | rt w η => exact fun v H' ι' s t x => let g := go t x; ⟨g.1, h v _ ι' (s.mv (Mv.unlock g.1)) g.2.1 g.2.2⟩
  | rse c w η => exact h.elim
  | stk => exact h.elim
end
section
variable {X : Cx} {T : List (Addr × Str)} {E : XK} {tg : Expr}
theorem PS.or {st : Stmt} {t t' : TS} (h : PS X st t) (h' : PS X st t') : PS X st fun D σ H => t D σ H ∨ t' D σ H := ⟨fun pins s σ H D I w => w.elim (h.run pins s σ H D I) (h'.run pins s σ H D I)⟩
theorem noRse_post {mg : Str → Option Value} {ι av : List Addr} {H : Hp} {Dn : Ends} {r : RS} (h : PostS mg T ι av H E Dn (noRse r)) : PostS mg T ι av H E Dn r := by
  cases r with
  | rse c w η => exact h.elim
  | _ => exact h
theorem s_forD {i : Nat} {x : Str} {xp : Pos} {body : List Stmt} {g : FG} {b : FS} {sl : List Nat} {pos : Pos} (hp : PassesOwn (model X.prog X.w) X.A X.env X.xe) (hc : X.calm = true) (hN : X.N[i]? = some x) (hv : Vis X.env.scope x) (hg : PG X tg (tTg X.mg T sl E g)) (hb : PSs X body (tS X.mg T E b))
    (hs : ∀ y, foldedSetIterable (.Name x xp) X.env y = pure y := by intro _; rfl) (hd : (x == ("__debug__" : Str)) = false := by decide) (hcd : (x == ("__classdict__" : Str)) = false := by decide) : PS X (.For tg (.Name x xp) body [] pos) (tS X.mg T E (sForD i g b)) :=
  PS.imp (PS.or (ps_lock (ps_for hp hc (pi_keys (pe_var hN hv hd hcd)) hg hb hs)) (ps_for hp hc (pi_keys (pe_var hN hv hd hcd)) hg hb hs)) fun Dn σ H ⟨ρ, η, ι, av, s, t, h⟩ => by
    unfold sForD at h
    split at h
    · rename_i ks xs er
      obtain ⟨v, ev, rv⟩ := s.at_ i _ er
      cases rv with
      | @dT d _ vs _ e hl n m q =>
        rcases e with e | ⟨u, e⟩
        · refine .inl ⟨d, .dT (ks.zip vs), e, trivial, fun od => ?_⟩
          have s1 := s.mv (Mv.lock (od := od) e n m)
          have t1 := t.locked (od := od) e n m
          refine ⟨.ref d, ev, d, od, rfl, .inr ⟨ks.zip vs, upd_same, ?_⟩⟩
          have w := lock_post (od := od) e n m h
          obtain ⟨n0, h1⟩ := limS_is (P := fun r => PostS X.mg T ι av (upd H d (.frz od (.dT (ks.zip vs)))) E ⟨fun σ' H' => H' d = some (.frz od (.dT (ks.zip vs))) ∧ Dn.nx σ' (upd H' d (.dT (ks.zip vs))), fun v H' => H' d = some (.frz od (.dT (ks.zip vs))) ∧ Dn.rt v (upd H' d (.dT (ks.zip vs))), fun σ' H' => H' d = some (.frz od (.dT (ks.zip vs))) ∧ Dn.bk σ' (upd H' d (.dT (ks.zip vs))), fun σ' H' => H' d = some (.frz od (.dT (ks.zip vs))) ∧ Dn.ct σ' (upd H' d (.dT (ks.zip vs)))⟩ r) w id
          exact for_run (itok_keysT hl upd_same n) s1 t1 h1
        · refine .inr ⟨.ref d, ev, d, u, rfl, .inr ⟨ks.zip vs, e, ?_⟩⟩
          obtain ⟨n0, h1⟩ := limS_is (P := fun r => PostS X.mg T ι av H E Dn r) (noRse_post h) id
          exact for_run (itok_keysT hl e n) s t h1
    · exact h.elim
end
end Dn
set_option Elab.async false
set_option linter.all false
set_option maxRecDepth 100000
set_option maxHeartbeats 2000000
/-! Dn, 17: the program's errors: class LayingError(ValueError), __init__(self, value): super().__init__(value); self.value = value; and its subclasses. The heap's side. -/
namespace Dn
open PySem PySem.W PySem.Calls PyProof.Rows PySem.HandSPX
/-! ### the text of __init__ -/
def eA : Arguments := { posonlyargs := [], args := [{ arg := "self", annotation := none, pos := ⟨4, 17, 4, 21⟩ }, { arg := "value", annotation := none, pos := ⟨4, 23, 4, 28⟩ }], vararg := none, kwonlyargs := [], kw_defaults := [], kwarg := none, defaults := [] }
def eB : List Stmt :=
  [.Expr (.Call (.Attribute (.Call (.Name "super" ⟨5, 8, 5, 13⟩) [] [] ⟨5, 8, 5, 15⟩) "__init__" ⟨5, 8, 5, 24⟩) [.Name "value" ⟨5, 25, 5, 30⟩] [] ⟨5, 8, 5, 31⟩) ⟨5, 8, 5, 31⟩, .Assign [.Attribute (.Name "self" ⟨6, 8, 6, 12⟩) "value" ⟨6, 8, 6, 18⟩] (.Name "value" ⟨6, 21, 6, 26⟩) ⟨6, 8, 6, 26⟩]
def eS : Scope := { kind := .function, names := [(PySem.Str.ofString "self", .local), (PySem.Str.ofString "value", .local), (PySem.Str.ofString "__class__", .free), (PySem.Str.ofString "super", .globalImplicit)], isGenerator := false, isCoroutine := false, more := [] }
/-- what the written part says of an error's class C below LayingError at B, whose __init__ stands at fI, its cell at cc, its code at cda -/
structure ErrTxt (prog : Program) (K : Frag) (C B fI cc cda : Addr) : Prop where
  cls : ∃ nm q N bs bm sn sub ab col dd k0 k1 k2 k3 k5, K.lookup C = some (excClassObj nm q C N bs bm true sn sub ab col dd k0 k1 k2 k3 k5 "ValueError.__new__") ∧ refsVE bm = true
  sa : findIn K (.ref C) "__setattr__" = some (some (.builtin "object.__setattr__"))
  ga : findIn K (.ref C) "__getattribute__" = some (some (.builtin "BaseException.__getattribute__"))
  gg : findIn K (.ref C) "__getattr__" = some none
  noN : findIn K (.ref C) "value" = some none
  iC : findIn K (.ref C) "__init__" = some (some (.ref fI))
  tI : typeIn K (.ref fI) = some (.type "function")
  kC : keepIn K (.ref C) = true
  exC : subIn K (.ref C) (.type "BaseException") = some true
  veC : subIn K (.ref C) (.type "ValueError") = some true
  tyC : typeIn K (.ref C) = some (.type "type")
  hdC : hasDictIn K C = true
  sup : ks_superIn K C B "__init__" = some (some (.builtin "ValueError.__init__"))
  subB : mroIn K C (.ref B) = some true
  clB : (clsIn K B).isSome = true
  opq : nsIn K cStatics "thirdparty.any" = some none
  fn : ∃ (oc : Value) (od : Option Addr) (dV kV doc pm : Value) (an : Option Addr) (ct : Value) (osl : Array (Option Value)),
    K.lookup fI = some ⟨oc, od, .func (ksFn "__init__" "LayingError.__init__" eA eB eS .none kV doc pm an (.ref cda) ct cc), osl⟩
  cd : codeIn K (.ref cda) "LayingError.__init__" = true
  file : ∃ ccl cdd vs ccs tf, K.lookup cda = some ⟨ccl, cdd, .fields vs, ccs⟩ ∧ vs[2]? = some (.str prog.main.file tf)
  cell : ∃ cl cld csl, K.lookup cc = some ⟨cl, cld, .cell (some (.ref B)), csl⟩
  nosup : (prog.main.scope.names.lookup ("super" : Str)).isSome = false
  mgs : nsIn K mainGlobals "super" = some none
section
variable {prog : Program} {w : World} {M : Model} {A : Around} {E : Value → Shared → Prop} {s : Shared}
/-- the bound __init__ called with values: the object's args are laid anew -/
theorem mw_of {i : String} {pos : Pos} {u x : Addr} {first : List Value} {args : List (Bool × Sem Value)} {Q : Value → Shared → Prop} (hp : args.any (·.1) = false)
    (h : wpAny M A (evalArgs (.ref u) true args []) (fun a s₁ => s₁.heap.get? u = some (kxs_mw i x) ∧ wpAny M A (call (.ref u) (first ++ a.pos) a.kw) Q E s₁) E s) : wpAny M A (callWith pos (.ref u) first args []) Q E s := by
  unfold callWith
  refine wpAny_bind (wpAny_holding (wpAny_mono h (fun a s₁ h₁ => wpAny_bind (wpAny_standAt ?_)) fun _ _ x => x))
  obtain ⟨ho, hcall⟩ := h₁
  simp only [hp, List.any_nil, Bool.or_false]
  refine wpAny_bind (m := keeperOf (.ref u)) ?_
  unfold keeperOf
  refine wpAny_bind (wpAny_load ho ?_)
  simp only [kxs_mw, show (Value.type "method-wrapper" != Value.type "method") = true by decide, show (Value.type "method-wrapper" == Value.type "builtin_function_or_method" || Value.type "method-wrapper" == Value.type "method-wrapper") = true by decide, if_true]
  refine wpAny_pure ?_
  exact wpAny_bind (wpAny_mono hcall (fun r s₂ hr => wpAny_bind (wpAny_holding (wpAny_point (wpAny_pure hr)))) fun _ _ x => x)
theorem mw_with {i : String} {pos : Pos} {u x : Addr} {first : List Value} {env : Env} {e : Expr} {rest : List Expr} {Q : Value → Shared → Prop}
    (h : wpAny M A (spliced (backTo pos (starEach (e :: rest) env))) (fun vs s₁ => s₁.heap.get? u = some (kxs_mw i x) ∧ wpAny M A (call (.ref u) (first ++ vs)) Q E s₁) E s)
    (he : starEach (e :: rest) env = (false, eval e env) :: starEach rest env := by rfl) (hplain : (backTo pos (starEach rest env)).any (·.1) = false := by rfl) :
    wpAny M A (callWith pos (.ref u) first (backTo pos (starEach (e :: rest) env)) []) Q E s := by
  rw [he] at h ⊢
  refine mw_of (i := i) (x := x) (by show (false || (backTo pos (starEach rest env)).any (·.1)) = false; rw [hplain]; rfl) ?_
  exact evalArgs_plain h
end
section
variable {prog : Program} {w : World} {A : Around} {E : Value → Shared → Prop} {h : Heap} {g : Array GenState} {d : Drawn} {t : Nat} {os : OsState}
variable {nm q : Str} {C N : Addr} {bs bm : List Value} {hdct : Bool} {sn : List Str} {sub : List Value} {ab : Bool} {col : Option Bool} {dd : Option Addr} {k0 k1 k2 k3 k5 : Option Value}
theorem mw_call {u e t0 : Addr} {rest : List Value} {Q : Value → Shared → Prop}
    (hC : h.get? C = some (excClassObj nm q C N bs bm hdct sn sub ab col dd k0 k1 k2 k3 k5 "ValueError.__new__")) (he : h.get? e = some (excO C t0)) (hu : h.get? u = some (kxs_mw "ValueError.__init__" e)) (hrest : rest.length ≤ sizeLine)
    (hq : ∀ h' t1, (∀ b o, b ≠ e → h.get? b = some o → h'.get? b = some o) → h'.get? e = some (excO C t1) → Q .none ⟨h', g, d, t, os⟩) :
    wpAny (model prog w) A (call (.ref u) rest) Q E ⟨h, g, d, t, os⟩ := by
  refine wpAny_call (codeAny_of_tree ?_)
  show wpAny _ A.in1 (callAny (.ref u) ⟨rest, []⟩) _ _ _
  simp only [callAny]
  refine wpAny_bind (wpAny_load hu ?_)
  simp only [kxs_mw, show (Value.type "method-wrapper" == Value.type "method" || Value.type "method-wrapper" == Value.type "builtin_function_or_method" || Value.type "method-wrapper" == Value.type "method-wrapper") = true by decide, if_true]
  refine W.KFB.if_so (by decide) ?_
  refine wpAny_bind (ESX.check_bound F.excBase_ValueError hC he rfl ?_)
  refine wpAny_bind (wpAny_pure (wpAny_pure ?_))
  refine ⟨Code.quiet_builtin _ (by decide +kernel), codeAny_builtin F.excBase_ValueError.initEntry ?_⟩
  rw [Around.under_plainId F.excBase_ValueError.init.plain _]
  wp_walk
  refine hq _ h.objs.size (fun b o hb ho => ?_) ?_
  · rw [Heap.get?_update_other _ _ (Ne.symm hb)]
    exact Heap.get?_push_of_some _ ho
  · rw [Heap.get?_update_self _ (Heap.get?_push_of_some _ he) rfl]
    rfl
end
/-- what __init__ leaves of a fresh error at x -/
structure ErrEnd (h h' : Heap) (x C dx t1 : Addr) (v : Value) : Prop where
  keep : ∀ b o, b ≠ x → h.get? b = some o → h'.get? b = some o
  obj : h'.get? x = some { cls := .ref C, dict := some dx, data := .fields #[.ref t1, .none, .none, .none, .bool false, .none] }
  dbig : h.objs.size ≤ dx
  dne : dx ≠ x
  ns : h'.Ns1 dx (fun y => if y = "value" then some v else none)
theorem two_local {a b : Value} {y : Str × Value} (hy : y ∈ [(("self" : Str), a), ("value", b)]) : eS.names.lookup y.1 = some .local := by
  rcases List.mem_cons.mp hy with h | hy
  · rw [h]
    rfl
  · rw [List.mem_singleton.mp hy]
    rfl
section
variable {prog : Program} {w : World} {A : Around} {E : Value → Shared → Prop} {R : Result → Shared → Prop} {s : Shared} {K : Frag} {mg mb : Str → Option Value} {C B fI cc cda : Addr}
theorem err_init (T : ErrTxt prog K C B fI cc cda) {x t0 : Addr} {v : Value} (X : K.In s.heap) (hlim : s.heap.NoLimit) (hG : s.heap.Ns mainGlobals mg) (hmg : mg "super" = none) (hB : s.heap.Ns builtinsNs mb) (hbb : ∀ x : Str, x ≠ "__name__" → mb x = bootBuiltins x) (hx : s.heap.get? x = some (excO C t0)) (hnx : K.lookup x = none) (hroom : A.depth < recursionLimit)
    (hq : ∀ h' tk dx t1, ErrEnd s.heap h' x C dx t1 v → R (.ok (.ret .none)) { s with heap := h', toks := tk }) :
    codeAny (model prog w) A (.call (.ref fI) ⟨[.ref x, v], []⟩) R s := by
  obtain ⟨oc, od, dV, kV, doc, pm, an, ct, osl, ho⟩ := T.fn
  obtain ⟨nm, q, N, bs, bm, sn, sub, ab, col, dd, k0, k1, k2, k3, k5, hC, hbm⟩ := T.cls
  have hcl : clsIn K C = some { name := nm, bases := bs, mro := .ref C :: bm, ns := N, qualname := q, hasDict := true, slotNames := sn, subclasses := sub, abstract := ab, collection := col, hasDel := false } := by unfold clsIn; rw [hC] <;> rfl
  obtain ⟨ccl, cdd, fvs, ccs, tf, hcd1, hcd2⟩ := T.file
  obtain ⟨cl, cld, csl, hcell⟩ := T.cell
  obtain ⟨cdB, hclB⟩ := Option.isSome_iff_exists.mp T.clB
  refine ks_codeAny_call_defAt (fd := ksFn "__init__" "LayingError.__init__" eA eB eS .none kV doc pm an (.ref cda) ct cc) (body := eB) (binds := [("self", .ref x), ("value", v)]) hroom (X _ _ ho) rfl hlim (codeRec_of X T.cd) rfl (BindsTo.of_eq (by first | rfl | with_unfolding_all rfl)) (by show ∀ x ∈ eS.names, x.2 ≠ .cell; decide +kernel) (fun y hy => two_local hy) (fun h₁ hns k => ?_)
  have hxL : s.heap.objs.size ≠ x := Nat.ne_of_gt (Heap.lt_size hx)
  have X₁ : K.In h₁ := X.keeps k
  have hx₁ := k _ _ hx
  have hz₁ : s.heap.objs.size < h₁.objs.size := hns.lt
  have G₁ := hG.keeps k
  have B₁ := hB.keeps k
  obtain ⟨hp0, g, d, tk, os⟩ := s
  -- super().__init__(value)
  refine ks_wpAt_execs_cons (ks_wpAt_Expr_any (ks_wpAt_MethodCall (ks_wpAt_super_base (env := ksEnv "LayingError.__init__" eS hp0.objs.size fI (.ref cda) cc) (by first | rfl | decide +kernel) (by first | rfl | decide +kernel) (by decide +kernel) rfl (X₁ _ _ ho) rfl rfl rfl (X₁ _ _ hcd1) rfl hcd2 (by simp) T.nosup ?_)))
  refine ks_loadName_global rfl (by first | rfl | decide +kernel) (loadGlobal_builtin (env := ksEnv "LayingError.__init__" eS hp0.objs.size fI (.ref cda) cc) G₁ hmg B₁ ((hbb _ (by decide +kernel)).trans (by first | rfl | kernel_rfl)) ⟨rfl, ?_⟩)
  refine wpAny_loadName_free rfl (by first | rfl | decide +kernel) rfl ⟨_, X₁ _ _ hcell, rfl⟩ ?_
  refine wpAny_loadName_local (v := .ref x) rfl (by first | rfl | decide +kernel) hns (by first | rfl | with_unfolding_all rfl | kernel_rfl) ?_
  obtain ⟨oB, hB1, hB2⟩ : ∃ oB, K.lookup B = some oB ∧ oB.data = .cls cdB := by
    unfold clsIn at hclB
    split at hclB
    · rename_i c0 d0 cd0 sl0 hob
      cases hclB
      exact ⟨_, hob, rfl⟩
    · cases hclB
  have xC : x ≠ C := fun z => by rw [z, hC] at hnx; cases hnx
  refine ks_wpAny_isType_cls (X₁ _ _ hB1) hB2 ⟨rfl, ?_⟩
  refine ks_wpAny_call_super (X₁ _ _ hB1) hB2 hx₁ rfl (fun c e => by cases e) (looks_mroIn X₁ T.subB) fun h₂ hso k₂ => ?_
  have X₂ : K.In h₂ := X₁.keeps k₂
  have hx₂ := k₂ _ _ hx₁
  have I₂ : InstAt h₂ x (excO C t0) C none := ⟨hx₂, rfl, rfl, trivial⟩
  have hm := T.sup
  unfold ks_superIn at hm
  rw [hcl] at hm
  refine kxs_getMethod kxs_ValueError hso (looks_opaque X₂ T.opq) (l₀ := .ref C :: bm) (fun A Q E s k q => wpAny_bind ((looks_clsIn X₂ hcl) A _ E s k (wpAny_pure q))) rfl X₂ hm (I₂.type.andThen (looks_subIn X₂ T.veC)) xC (by decide +kernel) ?_
  have k₃ : ∀ b o, h₂.get? b = some o → (h₂.push (kxs_mw "ValueError.__init__" x)).get? b = some o := fun b o e => Heap.get?_push_of_some _ e
  have N₃ : (h₂.push (kxs_mw "ValueError.__init__" x)).Ns hp0.objs.size fun y => List.lookup y (List.reverse [(("self" : Str), Value.ref x), ("value", v)]) := (hns.keeps k₂).keeps k₃
  have hu : (h₂.push (kxs_mw "ValueError.__init__" x)).get? h₂.objs.size = some (kxs_mw "ValueError.__init__" x) := Heap.get?_push_size _ rfl
  refine mw_with (i := "ValueError.__init__") (x := x) ?_
  refine spliced_cons (wpAny_Name (wpAny_loadName_local (v := v) rfl (by first | rfl | decide +kernel) N₃ (by first | rfl | with_unfolding_all rfl | kernel_rfl) (spliced_nil ⟨hu, ?_⟩)) (by decide +kernel))
  refine mw_call (rest := [] ++ [v]) (t0 := t0) (k₃ _ _ (X₂ _ _ hC)) (k₃ _ _ hx₂) hu (by show 1 ≤ sizeLine; decide) fun h₄ t1 k₄ hx₄ => ?_
  have kk : ∀ b o, b ≠ x → hp0.get? b = some o → h₄.get? b = some o := fun b o hb e => k₄ b o hb (k₃ b o (k₂ b o (k b o e)))
  have X₄ : K.In h₄ := fun b o e => k₄ b o (fun z => by rw [z, hnx] at e; cases e) (k₃ b o (X₂ b o e))
  have N₄ : h₄.Ns hp0.objs.size fun y => List.lookup y (List.reverse [(("self" : Str), Value.ref x), ("value", v)]) := by
    obtain ⟨o, es, ep, e1, e2⟩ := N₃
    exact ⟨o, es, ep, k₄ _ _ hxL e1, e2⟩
  -- self.value = value
  refine wpAt_of_wpAny (wpAny_execs_cons (plainObj_wpAny_Assign_Attribute ?_))
  refine wpAny_Name (wpAny_loadName_local (v := v) rfl (by first | rfl | decide +kernel) N₄ (by first | rfl | with_unfolding_all rfl | kernel_rfl) ?_) (by decide +kernel)
  refine wpAny_Name (wpAny_loadName_local (v := .ref x) rfl (by first | rfl | decide +kernel) N₄ (by first | rfl | with_unfolding_all rfl | kernel_rfl) ?_) (by decide +kernel)
  refine set_plain X₄ (ox := excO C t1) (od := none) ⟨hx₄, rfl, rfl, trivial⟩ T.sa ?_
  refine exc_osa X₄ hx₄ hcl (show refsVE (.ref C :: bm) = true from hbm) rfl T.noN (fun h₅ tk₅ dx k₅ dn dne hx₅ hn₅ => ?_)
  show wpAny _ _ (execs _ _) _ _ _
  refine wpAny_execs_nil (hq h₅ tk₅ dx t1 ⟨fun b o hb e => k₅ b o hb (kk b o hb e), hx₅, ?_, dne, hn₅⟩)
  have z₄ : hp0.objs.size < h₄.objs.size := N₄.lt
  exact Nat.le_of_lt (Nat.lt_of_lt_of_le z₄ dn)
end
end Dn
set_option Elab.async false
set_option linter.all false
set_option maxRecDepth 100000
set_option maxHeartbeats 2000000
/-! Dn, 18: the program's errors: made, raised, asked. -/
namespace Dn
open PySem PySem.W PySem.Calls PyProof.Rows PySem.HandSPX
/-- a made error -/
structure ErrMade (h h' : Heap) (e C d : Addr) (v : Value) : Prop where
  keep : ∀ b o, h.get? b = some o → h'.get? b = some o
  new : h.objs.size ≤ e
  obj : ∃ oe vs, h'.get? e = some oe ∧ oe.cls = .ref C ∧ oe.dict = some d ∧ oe.data = .fields vs ∧ vs[1]? = some .none
  dbig : h.objs.size ≤ d
  dne : d ≠ e
  ns : h'.Ns1 d (fun y => if y = "value" then some v else none)
section
variable {prog : Program} {w : World} {A : Around} {E : Value → Shared → Prop} {R : Result → Shared → Prop} {s : Shared} {K : Frag} {mg mb : Str → Option Value} {C B fI cc cda : Addr}
theorem err_made (T : ErrTxt prog K C B fI cc cda) {v : Value} (X : K.In s.heap) (hlim : s.heap.NoLimit) (hG : s.heap.Ns mainGlobals mg) (hmg : mg "super" = none) (hB : s.heap.Ns builtinsNs mb) (hbb : ∀ x : Str, x ≠ "__name__" → mb x = bootBuiltins x) (hroom : A.depth + 1 < recursionLimit)
    (hq : ∀ h' tk e d, ErrMade s.heap h' e C d v → R (.ok (.ret (.ref e))) { s with heap := h', toks := tk }) :
    codeAny (model prog w) A (.call (.ref C) ⟨[v], []⟩) R s := by
  obtain ⟨nm, q, N, bs, bm, sn, sub, ab, col, dd, k0, k1, k2, k3, k5, hC, hbm⟩ := T.cls
  obtain ⟨hp, g, dr, tk, os⟩ := s
  have k : ∀ b o, hp.get? b = some o → ((hp.push (kdv_tup [v])).push (excO C hp.objs.size)).get? b = some o := fun b o e => Heap.get?_push_of_some _ (Heap.get?_push_of_some _ e)
  have hget : ((hp.push (kdv_tup [v])).push (excO C hp.objs.size)).get? (hp.objs.size + 1) = some (excO C hp.objs.size) := by heap_get
  have hnx : K.lookup (hp.objs.size + 1) = none := by
    cases e : K.lookup (hp.objs.size + 1) with
    | none => rfl
    | some o =>
      have z : hp.get? (hp.objs.size + 1) = some o := X _ _ e
      exact absurd (Nat.lt_of_succ_lt (Heap.lt_size z)) (Nat.lt_irrefl _)
  refine call_own F.excBase_ValueError (fun X => refsVE_contains X bm hbm) (X _ _ hC) (looks_findIn X T.iC) (fun self => bind_fn X self T.tI) (by show 1 ≤ sizeLine; decide) ?_
  refine err_init (s := ⟨(hp.push (kdv_tup [v])).push (excO C hp.objs.size), g, dr, tk, os⟩) T (X.keeps k) (hlim.keeps k) (hG.keeps k) hmg (hB.keeps k) hbb hget hnx ?_ fun h' tk' dx t1 ⟨k', hx, dn, dne, hns⟩ => ?_
  · show A.depth + 1 < recursionLimit
    exact hroom
  · have old : ∀ b o, hp.get? b = some o → h'.get? b = some o := fun b o e => k' b o (Nat.ne_of_lt (Nat.lt_succ_of_lt (Heap.lt_size e))) (k b o e)
    have z : hp.objs.size + 1 + 1 ≤ dx := by
      have q := dn
      rw [Heap.size_push, Heap.size_push] at q
      exact q
    exact ⟨rfl, hq h' tk' (hp.objs.size + 1) dx ⟨old, Nat.le_succ _, ⟨_, _, hx, rfl, rfl, rfl, rfl⟩, Nat.le_trans (Nat.le_trans (Nat.le_succ _) (Nat.le_succ _)) z, dne, hns⟩⟩
end
end Dn
namespace Dn
open PySem PySem.Spec PyProof.Rows L2
/-- a class of the program's errors, by its name -/
structure ErrC (P : Program) (K : PySem.W.Frag) (mg : Str → Option Value) (x : Str) (B fI cc cda : Addr) : Prop where
  g : mg x = some (.ref (He.ga K x))
  t : ErrTxt P K (He.ga K x) B fI cc cda
  sup : mg "super" = none
theorem rel_value {v : V} {u : Value} (r : RelV v u) (f : Str) : RelO (List.lookup f [(("value" : Str), v)]) (if f = "value" then some u else none) := by
  by_cases h : f = "value"
  · subst h
    rw [if_pos rfl, show List.lookup ("value" : Str) [(("value" : Str), v)] = some v by simp [List.lookup]]
    exact r
  · have h2 : (f == ("value" : Str)) = false := by simpa using h
    rw [if_neg h, show List.lookup f [(("value" : Str), v)] = none by simp [List.lookup, h2]]
    trivial
section
variable {X : Cx} {B fI cc cda : Addr}
def tMkErr (C : Addr) (te : TE) : L2.St → Hp → XK → Prop := fun σ H Q => te σ H fun v H1 => ∀ d, H1 d = none → Q (.ref C) (some d) (upd H1 d (.xd [(("value" : Str), v)]))
theorem pmk_err {x : Str} {a : Expr} {te : TE} {p pos : Pos} {k : Nat} (T : ErrC X.prog X.K X.mg x B fI cc cda) (hr : Room k X.A) (he : PE X a te) (hg : Gl X x) (hdb : (x == ("__debug__" : Str)) = false)
    (hs : starEach (a :: []) X.env = (false, eval a X.env) :: starEach [] X.env) : PMk X (.Call (.Name x p) [a] [] pos) (tMkErr (He.ga X.K x) te) := by
  intro pins s σ H Q I h
  refine wpAny_Call_Name_kw (ld_glob I hg T.g ?_ hdb)
  have ha : PA X [a] (tCons te tNil) := pa_cons he pa_nil hs
  have ha' := ha.run pos pins s σ H (fun vs H1 => match vs with
    | [v] => ∀ d, H1 d = none → Q (.ref (He.ga X.K x)) (some d) (upd H1 d (.xd [(("value" : Str), v)]))
    | _ => False) I h
  refine PySem.W.callWith_K (h₀ := X.base) I.ok.mod.kin T.t.kC (thn ha' fun us s1 ⟨vs, H1, I1, r1, q1⟩ => ?_) hs rfl
  refine ⟨I1.kIn, ?_⟩
  cases vs with
  | nil => exact q1.elim
  | cons v vs =>
    cases vs with
    | cons _ _ => exact q1.elim
    | nil =>
      obtain ⟨v', rfl, rv⟩ := r1.one
      have q1 : ∀ d, H1 d = none → Q (.ref (He.ga X.K x)) (some d) (upd H1 d (.xd [(("value" : Str), v)])) := q1
      show wpAny _ _ (call (.ref (He.ga X.K x)) [v']) _ _ _
      have hlim := I1.nolimit
      have hG := I1.mod.glob.keeps I1.bk
      obtain ⟨mb, hB, hbb⟩ := I1.mod.blt
      have hB' := hB.keeps I1.bk
      obtain ⟨hp, g, dr, tk, os⟩ := s1
      refine wpAny_call (err_made T.t I1.kIn hlim hG T.sup hB' hbb (by have := hr.dp; omega) fun h' tk' e d M => ?_)
      show MkP X pins σ Q (.ref e) ⟨h', g, dr, tk', os⟩
      obtain ⟨oe, fv, hoe, hc, hd, hdat, h1⟩ := M.obj
      obtain ⟨G', g1, g2⟩ := restrict h' fun b => decide (b ≠ e)
      have gk : ∀ b, b ≠ e → G'.get? b = h'.get? b := fun b hb => g1 b (decide_eq_true hb)
      have ge : G'.get? e = none := g2 e (by simp)
      have old : ∀ b o, hp.get? b = some o → G'.get? b = some o := fun b o q => (gk b (Nat.ne_of_lt (Nat.lt_of_lt_of_le (Heap.lt_size q) M.new))).trans (M.keep b o q)
      have ob : ObjOk X.prog X.w (upd H1 d (.xd [(("value" : Str), v)])) G' d (.xd [(("value" : Str), v)]) :=
        ⟨_, M.ns.at (fun o q => (gk d M.dne).trans q), fun f => rel_value rv f⟩
      have J : Inv X pins σ (upd H1 d (.xd [(("value" : Str), v)])) ⟨G', g, dr, tk', os⟩ := I1.laid (t' := tk') old M.dbig ob
      refine ⟨e, oe, fv, ⟨G', g, dr, tk', os⟩, _, .ref (He.ga X.K x), some d, rfl, J, fun b o q => ?_, ge, hoe, ⟨hc, hd⟩, hdat, h1, ?_, rfl, I1.bare, raises_own T.t.exC T.t.tyC, q1 d (I1.hok.fresh M.dbig)⟩
      · by_cases hb : b = e
        · have q' : G'.get? b = some o := q
          rw [hb, ge] at q'
          cases q'
        · exact (gk b hb).symm.trans q
      · rw [upd_ne (Ne.symm M.dne)]
        exact I1.hok.fresh M.new
end
/-! ### by values -/
def sRaise (c : Str) (f : FE) : FS := fun ρ η => (f ρ η).thn fun d η1 => .rse c d η1
section
variable {X : Cx} {T : List (Addr × Str)} {E : XK} {k : Nat} {B fI cc cda : Addr}
theorem s_raise (G : Good X k E) {x : Str} {a : Expr} {f : FE} {p pos pos2 : Pos} (C : ErrC X.prog X.K X.mg x B fI cc cda) (he : PE X a (tE X.mg T E f)) (hg : Gl X x := by rfl) (hdb : (x == ("__debug__" : Str)) = false := by decide)
    (hs : starEach (a :: []) X.env = (false, eval a X.env) :: starEach [] X.env := by rfl) : PS X (.Raise (some (.Call (.Name x p) [a] [] pos)) none pos2) (tS X.mg T E (sRaise x f)) :=
  PS.imp (ps_raise G.calm G.tk (pmk_err C G.room he hg hdb hs)) fun Dn σ H ⟨ρ, η, ι, av, s, t, h⟩ => bindS s t h fun v d η₁ ι₁ H₁ e r t1 x1 s1 h1 => fun dx hdx =>
    h1 (He.ga X.K x) dx v (upd H₁ dx (.xd [(("value" : Str), v)])) ι₁ C.g upd_same (t1.fresh hdx).1 (t1.fresh hdx).2 (r.ext (Ext.new hdx)) (t1.new hdx) (Ext.new hdx)
end
end Dn
set_option Elab.async false
set_option linter.all false
set_option maxRecDepth 100000
set_option maxHeartbeats 2000000
/-! Dn, 19: isinstance of errors, their value. -/
namespace Dn
open PySem PySem.Spec PyProof.Rows L2
/-- the classes of the program's errors, cs: no one of them below another -/
structure Errs (P : Program) (K : PySem.W.Frag) (mg : Str → Option Value) (cs : List Str) : Prop where
  c : ∀ x ∈ cs, ∃ B fI cc cda, ErrC P K mg x B fI cc cda
  kit : ∀ x ∈ cs, ∀ y ∈ cs, PySem.W.kitOne K (.ref (He.ga K x)) (.ref (He.ga K y)) = some (decide (x = y))
  kn : ∀ y ∈ cs, PySem.W.kitOne K (.type "NoneType") (.ref (He.ga K y)) = some false
  cl : ∀ x ∈ cs, (PySem.W.clsIn K (He.ga K x)).isSome = true
  ca : ∀ x ∈ cs, PySem.W.findIn K (.ref (He.ga K x)) "__class__" = some (some (.builtin "object.__class__"))
  sp : PySem.W.specialIn K (.builtin "object.__class__") "__get__" = some (some (.builtin "getset_descriptor.__get__"))
  tk : PySem.W.takesIn K (.builtin "object.__class__") = some true
  mo : ∀ x ∈ cs, PySem.W.mroIn K (He.ga K x) (.type "object") = some true
  lay : ∀ x ∈ cs, PySem.W.exmOne K (.ref (He.ga K x)) (.ref (He.ga K "LayingError")) = some true
  gl : mg "LayingError" = some (.ref (He.ga K "LayingError"))
def dIsx (cs : List Str) (y : Str) (_ : Store) (d : D) : Option D := match d with
  | .non => some (.bl false)
  | .exc c _ => if c ∈ cs then some (.bl (decide (c = y))) else none
  | _ => none
def fVal (cs : List Str) (f : FE) : FE := fun ρ η => (f ρ η).bind fun d η1 => match d with
  | .exc c x => if c ∈ cs then .ok x η1 else .stk
  | _ => .stk
section
variable {X : Cx} {T : List (Addr × Str)} {E : XK} {cs : List Str}
theorem exc_inst {pins : List (Addr × Obj)} {σ : L2.St} {H : Hp} {s : Shared} {e C dx : Addr} {v : V} (I : Inv X pins σ H s) (h1 : H e = some (ExcO e C dx)) (h2 : H dx = some (.xd [(("value" : Str), v)])) :
    ∃ oe od, PySem.W.InstAt s.heap e oe C (some od) ∧ (∃ vs, oe.data = .fields vs) ∧ ∃ u, RelV v u ∧ PySem.W.lookIn "value" od = some (some u) := by
  obtain ⟨⟨oe, vs, g1, g2, g3⟩, _, _⟩ := I.hok e _ h1
  obtain ⟨mA, hns, hr⟩ := (show ObjOk X.prog X.w H s.heap dx (.xd [(("value" : Str), v)]) from I.hok dx _ h2)
  obtain ⟨od, ho, hl⟩ := lookIn_ns hns
  have l : List.lookup ("value" : Str) [(("value" : Str), v)] = some v := by simp [List.lookup]
  obtain ⟨u, hu, ru⟩ := RelO.some_of (v := v) (o := mA "value") (by rw [← l]; exact hr "value")
  exact ⟨oe, od, ⟨g1, g2.1, by unfold PySem.W.notCls; rw [g3] <;> rfl, by rw [g2.2]; exact ho⟩, ⟨vs, g3⟩, u, ru, by rw [hl, hu]⟩
/-- isinstance(e, C) -/
theorem c_isx (M : Errs X.prog X.K X.mg cs) {y : Str} (hy : y ∈ cs) : CallR X (.builtin "isinstance") (fun vs H Q => ∃ (x : V) (ι av : List Addr) (η : Store) (d r : D), vs = [x, .ref (He.ga X.K y)] ∧ StRep X.mg T ι av H η ∧ Rep X.mg ι av H x d ∧ dIsx cs y η d = some r ∧ ∀ v H', Rep X.mg ι av H' v r → StRep X.mg T ι av H' η → Ext ι H ι H' → Q v H') := by
  intro pins s σ H xs us Q I r ⟨x, ι, av, η, d, r0, ex, t, rx, e, k⟩
  subst ex
  obtain ⟨u1, u2, rfl, r1, r2⟩ := vals2 r
  cases (show u2 = Value.ref (He.ga X.K y) from r2)
  cases rx with
  | non =>
    cases e
    cases (show u1 = Value.none from r1)
    exact PySem.W.kia_one PySem.W.kitx_none I.kIn trivial (M.kn y hy) (fun z => nomatch z) fun tk => ⟨.bl false, H, I.tok tk, rfl, k _ H (.bl _) t (.refl _ _)⟩
  | @exc e0 C dx v c d hc h1 h2 n1 m1 n2 m2 rv =>
    unfold dIsx at e
    dsimp only at e
    split at e
    · rename_i hcs
      cases e
      cases (show u1 = Value.ref e0 from r1)
      obtain ⟨B, fI, cc, cda, EC⟩ := M.c c hcs
      have eC : C = He.ga X.K c := by
        have := hc.symm.trans EC.g
        cases this
        rfl
      subst eC
      obtain ⟨oe, od, J, _, _⟩ := exc_inst I h1 h2
      exact PySem.W.kia_one (PySem.W.kitx_exc (M.cl c hcs) EC.t.ga EC.t.gg EC.t.exC (M.ca c hcs) M.sp M.tk (M.mo c hcs)) I.kIn J (M.kit c hcs y hy) (fun z => nomatch z) fun tk => ⟨.bl _, H, I.tok tk, rfl, k _ H (.bl _) t (.refl _ _)⟩
    · cases e
  | _ => cases e
theorem d_isx (M : Errs X.prog X.K X.mg cs) {y : Str} {e : Expr} {p p2 pos : Pos} {f : FE} (he : PE X e (tE X.mg T E f)) (hm : X.mg "isinstance" = none) (hy : y ∈ cs := by decide) (hg : Gl X "isinstance" := by rfl) (hg2 : Gl X y := by rfl)
    (hd2 : (y == ("__debug__" : Str)) = false := by decide) (hs : starEach [e, .Name y p2] X.env = (false, eval e X.env) :: starEach [.Name y p2] X.env := by rfl) (hs2 : starEach [.Name y p2] X.env = (false, eval (.Name y p2) X.env) :: starEach [] X.env := by rfl)
    (hpl : (backTo pos (starEach [.Name y p2] X.env)).any (·.1) = false := by rfl) : PE X (.Call (.Name "isinstance" p) [e, .Name y p2] [] pos) (tE X.mg T E (f1 (dIsx cs y) f)) := by
  obtain ⟨B, fI, cc, cda, EC⟩ := M.c y hy
  exact PE.imp (pe_callB (c_isx M hy) hg hm boot_isinstance (pa_cons he (pa_cons (pe_glob (v := .ref (He.ga X.K y)) hg2 EC.g rfl hd2) pa_nil hs2) hs) (by decide) (by decide) hs hpl) fun σ H Q ⟨ρ, η, ι, av, s, t, h⟩ =>
    bindG s t h fun v d η₁ ι₁ H₁ e r t1 x1 s1 h1 => by
      cases eo : dIsx cs y η₁ d with
      | none => rw [eo] at h1; exact h1.elim
      | some z =>
        rw [eo] at h1
        exact ⟨v, ι₁, av, η₁, d, z, rfl, t1, r, eo, fun u H' r4 t4 x4 => h1 u H' ι₁ r4 t4 x4⟩
/-- e.value -/
theorem d_value (M : Errs X.prog X.K X.mg cs) {e : Expr} {pos : Pos} {f : FE} (he : PE X e (tE X.mg T E f)) (hb : attributeBase e "value" X.env (eval e X.env) = eval e X.env := by rfl) :
    PE X (.Attribute e "value" pos) (tE X.mg T E (fVal cs f)) := by
  refine ⟨fun pins s σ H Q I ⟨ρ, η, ι, av, sm, t, h⟩ => ?_⟩
  have h' := bindG (rl := rlE X.mg) (Qm := fun x H1 => ∃ (e0 C dx : Addr) (v : V) (c : Str), x = .ref e0 ∧ c ∈ cs ∧ X.mg c = some (.ref C) ∧ H1 e0 = some (ExcO e0 C dx) ∧ H1 dx = some (.xd [(("value" : Str), v)]) ∧ Q v H1) sm t h fun v d η₁ ι₁ H₁ e r t1 x1 s1 h1 => by
    cases r with
    | @exc e0 C dx v c d hc h2 h3 n1 m1 n2 m2 rv =>
      dsimp only at h1
      split at h1
      · rename_i hcs
        exact ⟨e0, C, dx, v, c, rfl, hcs, hc, h2, h3, h1 v H₁ ι₁ rv t1 (.refl _ _)⟩
      · exact h1.elim
    | _ => exact h1.elim
  refine attr_of hb (thn (he.run pins s σ H _ I h') fun u s1 ⟨x, H1, I1, rx, e0, C, dx, v, c, ex, hcs, hc, h2, h3, q⟩ => ?_)
  subst ex
  cases (show u = Value.ref e0 from rx)
  obtain ⟨B, fI, cc, cda, EC⟩ := M.c c hcs
  have eC : C = He.ga X.K c := by
    have := hc.symm.trans EC.g
    cases this
    rfl
  subst eC
  obtain ⟨oe, od, J, _, u, ru, hl⟩ := exc_inst I1 h2 h3
  exact PySem.HandSPX.exc_get I1.kIn J EC.t.ga EC.t.gg EC.t.exC (PySem.W.findObj_own EC.t.hdC EC.t.noN rfl hl) (handed_of ru) ⟨v, H1, I1.tok _, ru, q⟩
end
end Dn
set_option Elab.async false
set_option linter.all false
set_option maxRecDepth 100000
set_option maxHeartbeats 2000000
/-! Dn, 20: try: body / except C as n: suite; the caught error stays tracked behind it. -/
namespace Dn
open PySem PySem.Spec PyProof.Rows L2
section
variable {X : Cx} {pins : List (Addr × Obj)} {σ : L2.St} {H : Hp} {s : Shared}
theorem excO_ok {P : Program} {w : World} {H : Hp} {h : Heap} {e C dx : Addr} {oe : Obj} {vs : Array Value} (g : h.get? e = some oe) (z : Zc (.ref C) (some dx) oe) (d : oe.data = .fields vs) : ObjOk P w H h e (ExcO e C dx) :=
  ⟨⟨oe, vs, g, z, d⟩, ⟨oe, g⟩, fun h1 h2 ⟨oe, vs, a, b, c⟩ st => ⟨oe, vs, st _ a, b, c⟩⟩
/-- an object that came after the entry is tracked from now on -/
theorem inv_track {a : Addr} {o : Obj} {φ : Heap → Prop} {vs : Array Value} (I : Inv X pins σ H s) (e : s.heap.get? a = some o) (hd : o.data = .fields vs) (na : H a = none) (nL : a ≠ X.env.locals) (n0 : X.s_0.heap.get? a = none) (np : ∀ p ∈ X.pn ++ pins, p.1 ≠ a)
    (new : ObjOk X.prog X.w (upd H a (.ext φ)) s.heap a (.ext φ)) : Inv X pins σ (upd H a (.ext φ)) s := by
  have ne : ∀ b u, H b = some u → b ≠ a := fun b u q z => by rw [z, na] at q; cases q
  refine ⟨I.ok, I.os, I.bare, ⟨I.base.keep, I.base.slot, fun b u q n hx => ?_, I.base.there, fun b xs q => ?_, fun b u xs q => ?_, fun b ps q => ?_⟩, I.loc, I.cell, ?_, fun x c q => ?_, fun p hp => ?_, fun b u q => ?_, I.len⟩
  · rw [upd_ne fun z => by rw [z, n0] at q; cases q]
    exact I.base.free b u q n hx
  · have r := I.base.tups b xs q
    rw [upd_ne (ne _ _ r)]
    exact r
  · have r := I.base.frzs b u xs q
    rw [upd_ne (ne _ _ r)]
    exact r
  · obtain ⟨m, r⟩ := I.base.tbls b ps q
    exact ⟨m, by rw [upd_ne (ne _ _ r)]; exact r⟩
  · rw [upd_ne (Ne.symm nL)]
    exact I.free
  · have hc : c ≠ a := fun z => by
      obtain ⟨v, oc, q1, q2⟩ := I.cell x c q
      rw [z, e] at q1
      cases q1
      rw [hd] at q2
      cases q2
    rw [upd_ne hc]
    exact I.freeC x c q
  · obtain ⟨q1, q2, q3⟩ := I.pin p hp
    exact ⟨q1, by rw [upd_ne (np p hp)]; exact q2, q3⟩
  · by_cases hb : b = a
    · rw [hb, upd_same] at q
      cases q
      rw [hb]
      exact new
    · rw [upd_ne hb] at q
      exact (I.hok b u q).stay (fun c v _ r => r) (fun c r => by rw [upd_ne (ne _ _ r)]; exact r) fun c xs r => by rw [upd_ne (ne _ _ r)]; exact r
end
/-- what such a clause wishes of an error of the body -/
def wKept (K : PySem.W.Frag) (c : Value) (i : Nat) (ts : Addr → Value → Option Addr → TS) (Wout : WX) (D : Ends) : WX := fun cls d σ H =>
  ∃ b, PySem.W.exmOne K cls c = some b ∧ (b = true → ∃ C dx, cls = .ref C ∧ d = some dx ∧ ∀ a, H a = none → ts a cls d { nx := fun σ' H' => D.nx (σ'.set i none) (upd H' a (ExcO a C dx)), rt := fun _ _ => False } (σ.set i (some (.ref a))) H) ∧ (b = false → Wout cls d σ H)
section
variable {X : Cx} {x n : Str} {c : Value} {i : Nat} {body suite : List Stmt} {b₀ : Stmt} {np pos pos' : Pos} {tb : WX → TS} {ts : Addr → Value → Option Addr → TS} {Wout : WX}
theorem try_kept (hs : X.stack = X.env :: X.outer) (hf : X.env.frame = some X.env.locals) (hex : X.ex = []) (hN : X.N.Nodup) (hi : X.N[i]? = some n) (hln : X.env.kindOf n = some .local) (hc : Names X x c) (tk : Takes X Wout)
    (hb : ∀ (W : WX) (pn : List (Addr × Obj)) (xe : Value → Shared → Prop), Takes (X.tr pn xe) W → PassesOwn (model X.prog X.w) X.A X.env xe → PSs (X.tr pn xe) body (tb W))
    (hsu : ∀ (a : Addr) (oe : Obj) (cls : Value) (d : Option Addr) (pn : List (Addr × Obj)), Zc cls d oe → (∃ vs, oe.data = .fields vs) → PSs (X.suite a ((a, oe) :: pn)) (b₀ :: suite) (ts a cls d)) :
    PS X (.Try body [.ExceptHandler (some (.Name x np)) (some n) (b₀ :: suite) pos'] [] [] pos) (fun D σ H => tb (wKept X.K c i ts Wout D) D σ H) := by
  refine ⟨fun pins s σ H D I h => ?_⟩
  have ok := I.ok
  have hfr : X.A.frames = some (X.env :: X.outer) := by rw [ok.frames, hs]
  refine wpAny_Try_except ?_
  refine wpAny_mono ((hb (wKept X.K c i ts Wout D) (X.pn ++ pins) (fun e s₁ => wpAny (model X.prog X.w) X.A (noteFrame e X.env) (fun _ s₂ => wpAny (model X.prog X.w) X.A (setFlight e none) (fun _ s₃ =>
    wpAny (model X.prog X.w) X.A (handleBy e X.env [.ExceptHandler (some (.Name x np)) (some n) (b₀ :: suite) pos']) (SP X pins D) X.xe s₃) X.xe s₂) X.xe s₁) (fun u s' xx => ?_) PassesOwn.looking).run [] s σ H D (I.toTry _) h) (fun f s1 hsp => ?_) (fun e s1 he => he)
  · obtain ⟨a, B, sI, pins', σ', H', cls, d, rfl, J', nb, up, sky, na, os, ag, b, hb1, hyes, hno⟩ := xx
    have J : Inv X pins σ' H' sI := J'.ofTry ok
    have sky' : Sky B (X.env :: X.outer) a (Zc cls d) X.env.locals s'.heap := by rw [← hs]; exact sky
    show wpAny (model X.prog X.w) X.A (noteFrame (.ref a) X.env) _ _ _
    refine Sky.land Zc.steady hfr hf sky' fun h3 fl3 up3 => ?_
    have J3 : Inv X pins σ' H' { s' with heap := h3 } := J.landed nb fl3.1 (up.trans up3) os ag
    obtain ⟨oe3, vs3, he3, hz3, hd3⟩ := fl3.there
    have nfr : a ∉ frs (X.env :: X.outer) := fun hm => by
      obtain ⟨_, o', e', hnf⟩ := fl3.2.2.1.mem hm
      rw [he3] at e'
      cases e'
      exact hnf _ hd3
    have nL : a ≠ X.env.locals := fun z => nfr (List.mem_filterMap.mpr ⟨X.env, List.mem_cons_self, by rw [hf, z]⟩)
    have nF : a ∉ X.fs := fun hm => by
      obtain ⟨e, he, q⟩ := List.mem_filterMap.mp hm
      exact nfr (List.mem_filterMap.mpr ⟨e, List.mem_cons_of_mem _ he, q⟩)
    have nI : sI.heap.get? a = none := by
      cases q : sI.heap.get? a with
      | none => rfl
      | some o =>
        have := nb a o q (by rw [hs]; exact nfr)
        rw [fl3.2.1] at this
        cases this
    have n0 : X.s_0.heap.get? a = none := by
      cases q : X.s_0.heap.get? a with
      | none => rfl
      | some o =>
        obtain ⟨o', r⟩ := J.base.there a o q (by rw [hex]; simp)
        rw [nI] at r
        cases r
    have npin : ∀ p ∈ X.pn ++ pins, p.1 ≠ a := fun p hp z => by
      have := (J.pin p hp).1
      rw [z, nI] at this
      cases this
    have S3 := J3.suite he3 hd3 na nL nF
    refine wpAny_handleBy_cons (codeAny_handlers_test ?_) (by intro q; cases q)
    have LT : PySem.W.Looks (model X.prog X.w) h3 (typeOf (.ref a)) cls := fun A Q E s k q => wpAny_typeOf_ref (k _ _ he3) (by rw [hz3.1]; exact q)
    have LM := PySem.W.exm_one (M := model X.prog X.w) (J3.kIn) LT hb1
    have test : ∀ {Q : Value → Shared → Prop} {E : Value → Shared → Prop}, Q c { s' with heap := h3 } → wpAny (model X.prog X.w) (X.A.mark (some (.ref a))) (eval (.Name x np) X.env) Q E { s' with heap := h3 } := fun {Q E} q => by
      obtain ⟨hg, hdbg, hm | ⟨hm, hv, hnn⟩⟩ := hc
      · exact ld_glob (X := X.suite a ((a, oe3) :: (X.pn ++ pins))) S3 hg hm q hdbg
      · exact ld_blt (X := X.suite a ((a, oe3) :: (X.pn ++ pins))) S3 hg hm hv q hnn hdbg
    refine test (LM.here ?_)
    cases b with
    | true =>
      obtain ⟨C, dx, rfl, rfl, hts⟩ := hyes rfl
      refine codeAny_handlers_suite_as ?_
      refine HandSPX.lands_againZ fl3 fun h4 fl4 up4 => ?_
      have J4 : Inv X pins σ' H' { s' with heap := h4 } := J.landed nb fl4.1 ((up.trans up3).trans up4) os ag
      obtain ⟨oe4, vs4, he4, hz4, hd4⟩ := fl4.there
      have S4 := J4.suite he4 hd4 na nL nF
      refine store_ok (X := X.suite a ((a, oe4) :: (X.pn ++ pins))) (v := .ref a) S4 hN hi (.inl hln) rfl (fun s5 S5 => ?_) (.inr hln)
      refine wpAny_mono ((hsu a oe4 (.ref C) (some dx) (X.pn ++ pins) hz4 ⟨_, hd4⟩).run [] s5 _ H' _ S5 (hts a na)) (fun f s6 hsp => ?_) (fun _ _ z => False.elim z)
      cases f with
      | next =>
        obtain ⟨σ6, H6, S6, q6⟩ := hsp
        obtain ⟨ea, n6, _⟩ := S6.pin (a, oe4) (List.mem_append_left _ List.mem_cons_self)
        have J6 := S6.unsuite ok
        have T6 : Inv X pins σ6 (upd H6 a (ExcO a C dx)) s6 := inv_track J6 ea hd4 n6 nL n0 npin (excO_ok ea hz4 hd4)
        exact gone_ok T6 hN hi hln fun s7 J7 => ⟨_, _, J7, q6⟩
      | brk =>
        obtain ⟨σ6, H6, S6, q6⟩ := hsp
        exact q6.elim
      | cont =>
        obtain ⟨σ6, H6, S6, q6⟩ := hsp
        exact q6.elim
      | ret u =>
        obtain ⟨v6, σ6, H6, S6, r6, q6⟩ := hsp
        exact q6.elim
    | false =>
      show wpAny _ X.A (handleBy (.ref a) X.env []) _ _ _
      refine wpAny_handleBy_nil ?_
      obtain ⟨k1, k2, k3, oe, vs, T, oT, ts', he, hz, hd, h1, hr⟩ := id fl3
      unfold PySem.passOn
      refine wpAny_bind (wpAny_field he hd h1 ?_)
      rw [if_neg (show ¬ ((Value.ref T == Value.none) = true) from by simp)]
      have fin : wpAny (model X.prog X.w) X.A (setFlight (.ref a) X.env.frame) (fun _ s4 => wpAny (model X.prog X.w) X.A (throw (.ref a) : Sem Flow) (SP X pins D) X.xe s4) X.xe { s' with heap := h3 } := by
        rw [hf]
        refine HandSPX.setFlight_upZ fl3 fun h4 hh4 up4 => wpAny_throw (tk _ _ ?_)
        exact ⟨a, B, sI, pins, σ', H', cls, d, rfl, J, nb, (up.trans up3).trans up4, .inr (.inr (by rw [hs]; exact hh4)), na, os, ag, hno rfl⟩
      first
        | exact wpAny_bind (wpAny_pure (wpAny_bind fin))
        | exact wpAny_bind fin
  · cases f with
    | next =>
      obtain ⟨σ', H', J', q⟩ := hsp
      exact wpAny_execs_nil ⟨σ', H', J'.ofTry ok, q⟩
    | brk =>
      obtain ⟨σ', H', J', q⟩ := hsp
      exact ⟨σ', H', J'.ofTry ok, q⟩
    | cont =>
      obtain ⟨σ', H', J', q⟩ := hsp
      exact ⟨σ', H', J'.ofTry ok, q⟩
    | ret u =>
      obtain ⟨v, σ', H', J', r, q⟩ := hsp
      exact ⟨v, σ', H', J'.ofTry ok, r, q⟩
end
end Dn
set_option Elab.async false
set_option linter.all false
set_option maxRecDepth 100000
set_option maxHeartbeats 2000000
/-! Dn, 21: a lambda handed to a def that calls it within a try. -/
namespace Dn
open PySem PySem.Spec PyProof.Rows L2
section
variable {X : Cx} {pins : List (Addr × Obj)} {σ : L2.St} {H HZ : Hp} {s s1 : Shared}
/-- the lambda's function object -/
abbrev lamO (X : Cx) (params : Arguments) (body : Expr) (scope : Scope) (pm ctv : Value) (c' : Addr) : Obj := PySem.W.kla_obj "<lambda>" (X.env.qual ++ "<lambda>") params body scope (cloFrom X.env.cells scope.names []) pm c' ctv
/-- it is called: from frames that run above the frame where it was made -/
theorem clo_run {A : Around} {outer : List Env} {params : Arguments} {body : Expr} {scope : Scope} {pm ctv : Value} {f c' : Addr} {k : Nat} {Q : VK} {E : XK} {tb : TE} (I : Inv X pins σ H s) (L : LamX.LamS X.env.scope scope) (of1 : s1.heap.get? f = some (lamO X params body scope pm ctv c'))
    (un : Un (frs X.stack) [] H HZ s.heap s1.heap) (hc : HZ c' = some (LamX.CodeO c' (X.env.qual ++ "<lambda>"))) (e0 : Env0 X.prog X.w X.K X.mg X.base A outer s1 HZ) (hr : Room (k + 1) A)
    (hbind : bindArgs (PySem.W.kla_fn "<lambda>" (X.env.qual ++ "<lambda>") params body scope (cloFrom X.env.cells scope.names []) pm (.ref c') ctv) ⟨[], []⟩ = pure [])
    (hbody : PE (LamX.lamCx X A outer s1 HZ E scope f c') body tb) (ht : tb σ HZ Q) : codeAny (model X.prog X.w) A (.call (.ref f) ⟨[], []⟩) (CR (L2.CX X.prog X.w) outer X.prog X.w HZ s1 Q E) s1 := by
  obtain ⟨⟨oc, vs, t, hoc, hdc, hvc⟩, _, _⟩ := e0.hok c' _ hc
  refine PySem.W.kla_callFunE hr.depth of1 rfl L.co L.gen rfl ⟨c', oc, vs, t, rfl, hoc, hdc, hvc⟩ ?_
  rw [hbind]
  have lim : s1.heap.NoLimit := e0.mod.nolimit.keeps fun b o e => (e0.bs b o e).1
  refine wpAny_pure (wpAny_newFunctionEnv (fun y hy => (L.own y hy).2) (fun y hy => absurd hy (by simp)) (fun h₁ hns hsb => ⟨lim.fresh _ hsb, ?_⟩) L.kind)
  show codeAny _ _ (.expr body (LamX.lamEnv X scope s1.heap.objs.size f c')) _ _
  have kp : ∀ b o, s1.heap.get? b = some o → h₁.get? b = some o := fun b o e => hsb.extBut b o (Nat.ne_of_lt (Heap.lt_size e)) (Heap.get?_push_of_some _ e)
  have J : Inv (LamX.lamCx X A outer s1 HZ E scope f c') [] σ HZ { s1 with heap := h₁, toks := s1.toks + ([] : List (Str × Value)).length } := LamX.lam_start2 I L e0 hr.hd un hns kp
  refine PySem.W.kla_codeExpr (wpAny_mono (hbody.run [] _ _ HZ Q J ht) (fun v s' hq => ?_) fun e s' hq => hq)
  obtain ⟨w', H', J', rv, q⟩ := hq
  exact ⟨w', H', J'.os, J'.bare, J'.base, J'.hok, rv, q⟩
theorem good_lam {k : Nat} {E0 : XK} {A : Around} {outer : List Env} {E : XK} {scope : Scope} {f c' : Addr} (G : Good X k E0) {j : Nat} (hg : A.guards = some []) (hr : Room j (A.deeper (LamX.lamEnv X scope s1.heap.objs.size f c'))) : Good (LamX.lamCx X A outer s1 HZ E scope f c') j E :=
  ⟨rfl, G.nd, hg, hr, takes_of rfl rfl rfl rfl⟩
end
/-! ### the def that hears -/
section
variable {P : Program} {w : World} {K : PySem.W.Frag} {mg : Str → Option Value} {base : Heap} {A : Around} {outer : List Env} {s : Shared} {H : Hp} {Eg : XK} {N : List Str} {qual : Str} {scope : Scope} {g f : Addr} {cd : Value}
/-- x() -/
theorem pe_clo {pn : List (Addr × Obj)} {xe : Value → Shared → Prop} {W : WX} {tl : XK → Hp → VK → Prop} {fo : Obj} {i : Nat} {a : Str} {p1 p2 : Pos} (hf : s.heap.get? f = some fo) (hfo : ∃ fd sl, fo = { cls := .type "function", data := .func fd, slots := sl }) (hfn : H f = none) (hfr : f ∉ frs outer)
    (hclo : ∀ (s1 : Shared) (HZ : Hp) (Q : VK) (E : XK), s1.heap.get? f = some fo → Env0 P w K mg base (A.deeper (envOfC qual scope s.heap.objs.size g cd)) (envOfC qual scope s.heap.objs.size g cd :: outer) s1 HZ → Un (frs outer) [] H HZ s.heap s1.heap → tl E HZ Q →
      codeAny (model P w) (A.deeper (envOfC qual scope s.heap.objs.size g cd)) (.call (.ref f) ⟨[], []⟩) (CR (L2.CX P w) (envOfC qual scope s.heap.objs.size g cd :: outer) P w HZ s1 Q E) s1)
    (tk : Takes ((bx P w K mg base N qual scope g cd A outer s H Eg).tr pn xe) W) (hN : N[i]? = some a) (hv : Vis scope a) (hd : (a == ("__debug__" : Str)) = false) (hcd : (a == ("__classdict__" : Str)) = false) :
    PE ((bx P w K mg base N qual scope g cd A outer s H Eg).tr pn xe) (.Call (.Name a p1) [] [] p2) (fun σZ HZ Q => σZ[i]? = some (some (.ref f)) ∧ tl (WE W σZ) HZ Q) := by
  refine ⟨fun pinsZ sZ σZ HZ Q IZ h => ?_⟩
  obtain ⟨hs, ht⟩ := h
  refine wpAny_Call_Name_kw (thn ((pe_var (pos := p1) (i := i) hN hv hd hcd).run pinsZ sZ σZ HZ (fun v H1 => v = .ref f ∧ H1 = HZ) IZ ⟨.ref f, hs, rfl, rfl⟩) fun u s1 ⟨v, H1, I1, r1, q1⟩ => ?_)
  obtain ⟨ev, eH⟩ := q1
  subst ev
  rw [eH] at I1
  cases (show u = Value.ref f from r1)
  have of1 : s1.heap.get? f = some fo := I1.base.keep f _ hf hfn hfr (fun z => nomatch (show f ∈ ([] : List Addr) from z))
  obtain ⟨fd, sl, rfl⟩ := hfo
  refine PySem.W.callWith_F0 ⟨_, _, _, _, of1⟩ ?_
  refine wpAny_call (codeAny_mono (hclo s1 HZ Q (WE W σZ) of1 I1.env0 I1.base ht) fun r s' hq => ?_)
  cases r with
  | error e => exact passAt tk σZ pinsZ HZ s1 e s' I1 hq
  | ok fl =>
    cases fl with
    | ret u => exact I1.after hq
    | next => exact False.elim hq
    | brk => exact False.elim hq
    | cont => exact False.elim hq
end
/-- what the body of the def that hears does, by act: what x() does -/
def tHear (K : PySem.W.Frag) (CS : Value) (Wout : WX) (act : WX → TE) : TS :=
  tSeq (tAsg (tTup (tCons (tC .non) (tCons (tC .non) tNil))) (gTup K 2 (gCons (gName 1) (gCons (gName 2) gNil)))) (tSeq (fun D σ H => tAsg (act (wKept K CS 3 (fun _ _ _ => tAsg (tVar 3) (gName 1)) Wout D)) (gName 2) D σ H) (tRet (tTup (tCons (tVar 1) (tCons (tVar 2) tNil)))))
def heardN : List Str := ["call", "caught", "gave", "error"]
/-- the def's text does so -/
def HearOk (P : Program) (w : World) (K : PySem.W.Frag) (mg : Str → Option Value) (base : Heap) (x : Str) (st : Stmt) : Prop :=
  ∀ (cd : Value) (A : Around) (outer : List Env) (s : Shared) (H : Hp) (E : XK) (act : WX → TE), A.handled = none →
    (∀ (W : WX) (pn : List (Addr × Obj)) (xe : Value → Shared → Prop) (p1 p2 : Pos), Takes ((bx P w K mg base heardN x (defScope st) (He.ga K x) cd A outer s H E).tr pn xe) W → PE ((bx P w K mg base heardN x (defScope st) (He.ga K x) cd A outer s H E).tr pn xe) (.Call (.Name "call" p1) [] [] p2) (act W)) →
    PSs (bx P w K mg base heardN x (defScope st) (He.ga K x) cd A outer s H E) (defBody st) (tHear K (.ref (He.ga K "LayingError")) (fun cls d _ H => E cls d H) act)
def heardR (cs : List Str) : R D → R D
  | .ok d η => .ok (.tup [.non, d]) η
  | .rse c d η => if c ∈ cs then .ok (.tup [.exc c d, .non]) η else .stk
  | .stk => .stk
section
variable {P : Program} {w : World} {K : PySem.W.Frag} {mg : Str → Option Value} {base : Heap} {A : Around} {outer : List Env} {s : Shared} {H : Hp} {E : XK} {T : List (Addr × Str)} {ι av : List Addr} {η : Store} {cs : List Str} {f : Addr} {Q : VK}
theorem hear_reads (M : Errs P K mg cs) {r : R D} {Wout : WX} (t : StRep mg T ι av H η) (h : PostG mg T (rlE mg) ι av H E Q (heardR cs r)) :
    tHear K (.ref (He.ga K "LayingError")) Wout (fun W σZ HZ Q' => σZ[0]? = some (some (.ref f)) ∧ Ext ι H ι HZ ∧ StRep mg T ι av HZ η ∧ PostG mg T (rlE mg) ι av HZ (WE W σZ) Q' r) { nx := fun _ H' => Q .non H', rt := Q } (L2.start heardN [.ref f]) H := by
  refine ⟨by show 2 ≤ sizeLine; decide, fun p0 hp0 => ?_⟩
  have x0 : Ext ι H ι (upd H p0 (.tup [.non, .non])) := Ext.new hp0
  have t0 : StRep mg T ι av (upd H p0 (.tup [.non, .non])) η := t.new hp0
  refine ⟨p0, [.non, .non], rfl, SqT.of upd_same, rfl, _, _, rfl, _, _, rfl, rfl, rfl, x0, t0, ?_⟩
  have h := PostG.mono x0 h
  clear t x0
  revert h t0
  generalize upd H p0 (.tup [.non, .non]) = H
  intro t h
  cases r with
  | stk => exact h.elim
  | ok d η' =>
    intro v H' ι' rv t' x'
    refine ⟨_, rfl, _, rfl, by show 2 ≤ sizeLine; decide, fun p hp => ?_⟩
    obtain ⟨a1, a2, a3⟩ := new_pair t' .non rv hp
    exact h _ _ ι' a1 a2 (x'.trans a3)
  | rse c d η' =>
    simp only [heardR] at h
    split at h
    · rename_i hc
      intro C dx v H' ι' h1 h2 n1 n2 rv t' x'
      obtain ⟨B, fI, cc, cda, EC⟩ := M.c c hc
      have eC : C = He.ga K c := by
        have := h1.symm.trans EC.g
        cases this
        rfl
      subst eC
      refine ⟨true, M.lay c hc, fun _ => ⟨_, dx, rfl, rfl, fun a na => ?_⟩, fun z => nomatch z⟩
      refine ⟨_, rfl, _, rfl, _, rfl, by show 2 ≤ sizeLine; decide, fun p hp => ?_⟩
      have hx := Ext.new (ι := ι') (o := ExcO a (He.ga K c) dx) na
      have ta := t'.new (o := ExcO a (He.ga K c) dx) na
      have adx : dx ≠ a := fun z => by rw [z, na] at h2; cases h2
      have ra : Rep mg ι' av (upd H' a (ExcO a (He.ga K c) dx)) (.ref a) (.exc c d) := .exc h1 upd_same (by rw [upd_ne adx]; exact h2) (t'.fresh na).1 (t'.fresh na).2 n1 n2 (rv.ext hx)
      obtain ⟨a1, a2, a3⟩ := new_pair ta ra .non hp
      exact h _ _ ι' a1 a2 ((x'.trans hx).trans a3)
    · exact h.elim
end
end Dn
set_option Elab.async false
set_option linter.all false
set_option maxRecDepth 100000
set_option maxHeartbeats 2000000
/-! Dn, 22: the def that hears, called with a lambda. -/
namespace Dn
open PySem PySem.Spec PyProof.Rows L2
/-- the def x that hears, its text st -/
structure Hears (P : Program) (w : World) (K : PySem.W.Frag) (mg : Str → Option Value) (base : Heap) (x : Str) (st : Stmt) : Prop where
  d : ∃ fd, FunD K x x (defArgs st) (defBody st) (defScope st) [] [] (He.ga K x) fd
  g : mg x = some (.ref (He.ga K x))
  s : FnScope heardN ["call"] (defScope st)
  v : Vis (defScope st) "call"
  b : BindOk x st ["call"]
  h : HearOk P w K mg base x st
theorem hear_run {P : Program} {w : World} {K : PySem.W.Frag} {mg : Str → Option Value} {base : Heap} {x : Str} {st : Stmt} {A : Around} {outer : List Env} {s : Shared} {H : Hp} {E : XK} {T : List (Addr × Str)} {ι av : List Addr} {η : Store} {cs : List Str} {f : Addr} {fo : Obj} {Q : VK} {k : Nat} {r : R D}
    (B : Hears P w K mg base x st) (M : Errs P K mg cs) (hr : Room (k + 1) A) (e0 : Env0 P w K mg base A outer s H) (hf : s.heap.get? f = some fo) (hfo : ∃ fd sl, fo = { cls := .type "function", data := .func fd, slots := sl }) (hfn : H f = none) (hfr : f ∉ frs outer)
    (hclo : ∀ (cd : Value) (s1 : Shared) (H1 : Hp) (Q : VK) (E : XK), s1.heap.get? f = some fo → Env0 P w K mg base (A.deeper (envOfC x (defScope st) s.heap.objs.size (He.ga K x) cd)) (envOfC x (defScope st) s.heap.objs.size (He.ga K x) cd :: outer) s1 H1 → Un (frs outer) [] H H1 s.heap s1.heap → Ext ι H ι H1 → StRep mg T ι av H1 η → PostG mg T (rlE mg) ι av H1 E Q r →
      codeAny (model P w) (A.deeper (envOfC x (defScope st) s.heap.objs.size (He.ga K x) cd)) (.call (.ref f) ⟨[], []⟩) (CR (L2.CX P w) (envOfC x (defScope st) s.heap.objs.size (He.ga K x) cd :: outer) P w H1 s1 Q E) s1)
    (t : StRep mg T ι av H η) (h : PostG mg T (rlE mg) ι av H E Q (heardR cs r)) : codeAny (model P w) A (.call (.ref (He.ga K x)) ⟨[.ref f], []⟩) (CR (L2.CX P w) outer P w H s Q E) s := by
  obtain ⟨fd, F⟩ := B.d
  obtain ⟨oc, od, dV, kV, doc, pm, an, cdv, ct, osl, rfl, lk, hcd, hD, hK⟩ := F.ex
  have hb := FunD.bindsA (ps := ["call"]) F B.b s [.ref f] rfl
  refine LamX.run_ofS (N := heardN) (ps := ["call"]) (us := [.ref f]) (vs := [.ref f]) lk hcd B.s hr e0 hb (.cons rfl .nil) rfl fun hr' => ?_
  refine ⟨_, B.h cdv A outer s H E (fun W σZ HZ Q' => σZ[0]? = some (some (.ref f)) ∧ Ext ι H ι HZ ∧ StRep mg T ι av HZ η ∧ PostG mg T (rlE mg) ι av HZ (WE W σZ) Q' r) hr.hd (fun W pn xe p1 p2 tk => ?_), hear_reads M t h⟩
  exact pe_clo (tl := fun E HZ Q' => Ext ι H ι HZ ∧ StRep mg T ι av HZ η ∧ PostG mg T (rlE mg) ι av HZ E Q' r) hf hfo hfn hfr (fun s1 HZ Q E g1 e1 u1 ⟨xH, tH, hp⟩ => hclo cdv s1 HZ Q E g1 e1 u1 xH tH hp) tk (i := 0) rfl B.v (by decide) (by decide)
/-- all but the tables stay: for the store -/
theorem ext_tabs {ι : List Addr} {H H1 : Hp} (e : LamX.ExtN H H1) : Ext ι H ι H1 := ⟨⟨[], by simp⟩, fun a o h n k => ⟨e a o h k, n⟩⟩
theorem StRep.tabs {mg : Str → Option Value} {T : List (Addr × Str)} {ι av : List Addr} {H H1 : Hp} {η : Store} (t : StRep mg T ι av H η) (e : LamX.ExtN H H1) (tb : LamX.Tabs T H1) : StRep mg T ι av H1 η := by
  refine ⟨t.nd, t.len, fun i a m h1 h2 => ?_, fun a ha => ?_, tb⟩
  · have r := t.at_ i a m h1 h2
    obtain ⟨o, e1, e2⟩ := r.there
    refine r.keep (ext_tabs e) ?_
    rw [e1]
    exact e a o e1 fun ps z => by rcases e2 with ⟨_, q⟩ | ⟨_, q⟩ | ⟨_, q⟩ <;> rw [q] at z <;> cases z
  · obtain ⟨⟨xs, h⟩, n⟩ := t.av_ a ha
    exact ⟨⟨xs, e a _ h nofun⟩, n⟩
section
variable {X : Cx} {T : List (Addr × Str)}
/-- code objects stay -/
def KeepC (H H' : Hp) : Prop := ∀ a q, H a = some (LamX.CodeO a q) → H' a = some (LamX.CodeO a q)
theorem KeepC.ext {ι ι' av : List Addr} {H H' : Hp} {η : Store} (t : StRep X.mg T ι av H η) (x : Ext ι H ι' H') : KeepC H H' := fun a q h => (x.keep a _ h (fun z => by
  obtain ⟨m, r⟩ := t.mem z
  obtain ⟨o, e, y⟩ := r.there
  rw [h] at e
  cases e
  rcases y with ⟨_, y⟩ | ⟨_, y⟩ | ⟨_, y⟩ <;> (unfold LamX.CodeO at y; cases y)) LamX.codeO_ne).1
end
/-- where lambdas are made: the frame's code object, its table -/
structure LamAt (X : Cx) (T : List (Addr × Str)) (c p : Addr) : Prop where
  tb : LamX.TabB X.base X.mg c p
  code : X.env.code = .ref c
  m : (p, X.env.qual ++ "<lambda>") ∈ T
  u : ∀ q ∈ T, q.1 = p → q.2 = X.env.qual ++ "<lambda>"
section
variable {X : Cx} {T : List (Addr × Str)} {E : XK} {k : Nat} {cs : List Str} {c p : Addr}
def fHeard (cs : List Str) (fe : FE) : FE := fun ρ η => heardR cs (fe ρ η)
theorem d_heard {x : Str} {st : Stmt} {params : Arguments} {body : Expr} {scope : Scope} {fe : FE} {np lpos pos : Pos} (G : Good X (k + 2) E) (B : Hears X.prog X.w X.K X.mg X.base x st) (M : Errs X.prog X.K X.mg cs) (LA : LamAt X T c p) (L : LamX.LamS X.env.scope scope)
    (hbody : ∀ (A : Around) (outer : List Env) (s : Shared) (H : Hp) (E' : XK) (f c' : Addr), Good (LamX.lamCx X A outer s H E' scope f c') k E' → PE (LamX.lamCx X A outer s H E' scope f c') body (tE X.mg T E' fe))
    (hdef : defaultsOf params X.env = ([], []) := by rfl) (hbind : ∀ (q : Str) (cl : List (Str × Addr)) (pm cv ctv : Value), bindArgs (PySem.W.kla_fn "<lambda>" q params body scope cl pm cv ctv) ⟨[], []⟩ = pure [] := by intros; rfl) (hg : Gl X x := by rfl) (hdb : (x == ("__debug__" : Str)) = false := by decide) :
    PE X (.Call (.Name x np) [.Lambda params body scope lpos] [] pos) (tE X.mg T E (fHeard cs fe)) := by
  refine ⟨fun pins s σ H Q I ⟨ρ, η, ι, av, sm, t, h⟩ => ?_⟩
  obtain ⟨fd, F⟩ := B.d
  refine wpAny_Call_Name_kw (ld_glob I hg B.g ?_ hdb)
  refine PySem.W.callWith_K (h₀ := X.base) I.ok.mod.kin F.kp ?_ (by rfl) (by rfl)
  show wpAny _ _ (spliced ((false, eval (.Lambda params body scope lpos) X.env) :: backTo pos (starEach [] X.env))) _ _ s
  refine Calls.spliced_cons (LamX.lam_make2 I LA.tb LA.code LA.m LA.u t.tab hdef (L.has I.ok) fun f c' pm' ctv H1 s' I1 eN T1 hf hfn hfr hco => ?_)
  refine Calls.spliced_nil ⟨I1.kIn, ?_⟩
  have x1 : Ext ι H ι H1 := ext_tabs eN
  have t1 := t.tabs eN T1
  have sm1 := sm.ext x1
  have rc : codeAny (model X.prog X.w) X.A (.call (.ref (He.ga X.K x)) ⟨[.ref f], []⟩) (CR (L2.CX X.prog X.w) X.stack X.prog X.w H1 s' Q E) s' := by
    refine hear_run (r := fe ρ η) B M G.room I1.env0 hf ⟨_, _, rfl⟩ hfn hfr (fun cd s1 H2 Q E' g1 e1 u1 x2 t2 hp => ?_) t1 (PostG.mono x1 h)
    have hr1 : Room (k + 1) (X.A.deeper (envOfC x (defScope st) s'.heap.objs.size (He.ga X.K x) cd)) := G.room.deeper _
    exact clo_run I1 L g1 u1 (KeepC.ext t1 x2 _ _ hco) e1 hr1 (hbind _ _ _ _ _) (hbody _ _ s1 H2 E' f c' (good_lam G (show (X.A.deeper _).guards = some [] from G.gd) (hr1.deeper _))) ⟨ρ, η, ι, av, sm1.ext x2, t2, hp⟩
  refine wpAny_call (codeAny_mono rc fun r s2 hq => ?_)
  cases r with
  | error e => exact passes_call G.tk (fun _ _ _ _ z => z) pins σ H1 s' e s2 I1 hq
  | ok fl =>
    cases fl with
    | ret u => exact I1.after hq
    | next => exact False.elim hq
    | brk => exact False.elim hq
    | cont => exact False.elim hq
end
end Dn
set_option Elab.async false
set_option linter.all false
set_option maxRecDepth 100000
set_option maxHeartbeats 2000000
/-! Dn, 23: a comprehension [elt for x in iter] whose item is told of the frame around it: what stands in the block is read with the frame's own state at hand. -/
namespace Dn
open PySem PySem.Spec PyProof.Rows L2
section
variable {X : Cx}
/-- where the block begins: the frame's state there; the iterator's own objects -/
structure Door (X : Cx) (pins : List (Addr × Obj)) (σ : L2.St) (H : Hp) (s : Shared) (fp : List Addr) : Prop where
  inv : Inv X pins σ H s
  fp : ∀ b ∈ fp, FpOk X pins H b ∧ b < s.heap.objs.size
/-- back at the frame, from within its block -/
theorem Door.back {pins pins' : List (Addr × Obj)} {σ σ' : L2.St} {H H' : Hp} {s s' : Shared} {fp : List Addr} {scope : Scope} {cenv : Env} (d : Door X pins σ H s fp) (I : Inv (X.blk s H scope cenv fp) pins' σ' H' s') : Inv X pins σ H' s' :=
  d.inv.call' (ch := fp) I.os I.base I.hok I.bare fun b hb => ⟨(d.fp b hb).1.2.2.2.1, (d.fp b hb).1.2.1, (d.fp b hb).1.2.2.2.2.1, (d.fp b hb).1.2.2.2.2.2⟩
abbrev tComp (wi : TI) (g : TG) (te : TE) (vs : List Nat) : TE := tLc wi g tYes te vs
theorem comp_open {pins : List (Addr × Obj)} {s : Shared} {σ : L2.St} {H : Hp} {Q : VK} {elt tg iter : Expr} {scope : Scope} {own : List (Str × Nat)} {pos pos' : Pos} {wi : TI} {g : TG} {te : TE} {use : Option (Value → Sem Unit)} {Qf : Value → Shared → Prop}
    (hc : X.calm = true) (hN : X.N.Nodup) (I : Inv X pins σ H s) (hi : PI X tg iter wi) (ok : BlkOk X.N X.env.scope scope own) (hs : ∀ x, foldedSetIterable iter X.env x = pure x)
    (hg : ∀ (s : Shared) (H : Hp) (C : Addr) (cl : List (Str × Addr)) (fp : List Addr), PG (X.blk s H scope (compEnvC scope cl C X.env) fp) tg g)
    (he : ∀ (s : Shared) (H : Hp) (C : Addr) (cl : List (Str × Addr)) (fp : List Addr), Door X pins σ H s fp → PE (X.blk s H scope (compEnvC scope cl C X.env) fp) elt te)
    (h : tComp wi g te (own.map (·.2)) σ H Q)
    (hR : ∀ D C s' m H', Inv X pins σ H' s' → Q (.ref D) H' → s'.heap.Ns C m → FpOk X pins H' C → compPost (model X.prog X.w) X.A X.xe use Qf (.ref D) C (.ok .next) s') :
    wpAny (model X.prog X.w) X.A (comprehension (.ListComp elt [⟨tg, iter, [], 0⟩] scope pos) scope X.env pos' (newList []) false (eval iter X.env) use) Qf X.xe s := by
  have free : ∀ y ∈ scope.names, y.2 = .free → ∃ c, X.env.cells.lookup y.1 = some c := fun y hy e => (ok.free y hy e).elim (fun k => I.ok.has _ (.inl k)) fun k => I.ok.has _ (.inr k)
  refine wpAny_comprehension_free (use := use) rfl hs (closure_ok free) ok.kind (fun y hy e => by rw [ok.uniq y hy, e]) (thn (hi.run pins s σ H _ I h) fun xv s1 hx => thn hx fun itv s2 h2 => ?_)
  obtain ⟨it, fp, tn, J, H2, rfl, I2, T, at0, f2, q⟩ := h2
  refine wpAny_newObj_type (newEnv_comp ?_) (by show 0 ≤ sizeLine; decide)
  obtain ⟨W, ⟨m0, w0⟩, turn⟩ := q s2.heap.objs.size (I2.hok.fresh (Nat.le_refl _))
  -- the door: the new list laid
  have lay : Inv X pins σ (upd H2 s2.heap.objs.size (.lst [])) { s2 with heap := s2.heap.push { cls := .type "list", data := .seq ([] : List Value).toArray } } :=
    I2.laid (t' := s2.toks) (fun b o e => Heap.get?_push_of_some _ e) (Nat.le_refl _) ⟨Nat.zero_le _, [], 0, .nil, Heap.get?_push_size _ rfl⟩
  have low : ∀ b ∈ fp, b < s2.heap.objs.size := fun b hb => let ⟨o, e, _⟩ := T.obj _ _ at0 b hb; Heap.lt_size e
  have door : Door X pins σ (upd H2 s2.heap.objs.size (.lst [])) { s2 with heap := s2.heap.push { cls := .type "list", data := .seq ([] : List Value).toArray } } fp :=
    ⟨lay, fun b hb => ⟨⟨by rw [upd_ne (Nat.ne_of_lt (low b hb))]; exact (f2 b hb).1, (f2 b hb).2⟩, by
      show b < (s2.heap.push _).objs.size
      rw [Heap.size_push]
      exact Nat.lt_succ_of_lt (low b hb)⟩⟩
  have at1 : tn 0 (s2.heap.push { cls := .type "list", data := .seq ([] : List Value).toArray }) := T.keep _ _ _ at0 fun b _ o e => Heap.get?_push_of_some _ e
  generalize hd : ({ s2 with heap := s2.heap.push { cls := .type "list", data := .seq ([] : List Value).toArray } } : Shared) = sd at door lay
  have hh : s2.heap.push { cls := .type "list", data := .seq ([] : List Value).toArray } = sd.heap := by rw [← hd]
  rw [hh] at at1
  generalize upd H2 s2.heap.objs.size (.lst []) = Hd at door lay w0
  generalize s2.heap.objs.size = L at turn ⊢
  have blk := block_start lay ok hN door.fp
  have pg := hg sd Hd sd.heap.objs.size (cellsFrom (sd.heap.objs.size + 1) scope.names (cloFrom X.env.cells scope.names [])) fp
  have pe := he sd Hd sd.heap.objs.size (cellsFrom (sd.heap.objs.size + 1) scope.names (cloFrom X.env.cells scope.names [])) fp door
  have nfp : ∀ b ∈ fp, Hd b = none := fun b hb => (door.fp b hb).1.1
  show codeAny _ _ (.compStart (.ListComp elt [⟨tg, iter, [], 0⟩] scope pos) 0 (.ref it) (.ref L) (compEnvC scope (cellsFrom (sd.heap.objs.size + 1) scope.names (cloFrom X.env.cells scope.names [])) sd.heap.objs.size X.env)) (compPost (model X.prog X.w) X.A X.xe use Qf (.ref L) sd.heap.objs.size) { sd with heap := pushCells (sd.heap.push { cls := .type "dict", data := .dict #[] }) scope.names }
  have at2 : tn 0 (pushCells (sd.heap.push { cls := .type "dict", data := .dict #[] }) scope.names) := T.keep _ _ _ at1 fun b _ o e => pushCells_keeps _ _ _ _ (Heap.get?_push_of_some _ e)
  generalize hce : compEnvC scope (cellsFrom (sd.heap.objs.size + 1) scope.names (cloFrom X.env.cells scope.names [])) sd.heap.objs.size X.env = ce at blk pg pe ⊢
  have cL : ce.locals = sd.heap.objs.size := by rw [← hce] <;> rfl
  generalize hsb : ({ sd with heap := pushCells (sd.heap.push { cls := .type "dict", data := .dict #[] }) scope.names } : Shared) = sb at blk ⊢
  have at3 : tn 0 sb.heap := by rw [← hsb]; exact at2
  have ours : ∀ {σ' : L2.St} {H' : Hp} {s' : Shared}, Inv (X.blk sd Hd scope ce fp) [] σ' H' s' → (∀ b ∈ fp, H' b = none) → ∀ b ∈ fp, FpOk (X.blk sd Hd scope ce fp) [] H' b := fun {σ' H' s'} I' hn b hb =>
    ⟨hn b hb, (I'.ok.exf b hb).1, I'.ok.exfs b hb, .inl hb, fun x c e => (I'.ok.exf b hb).2 x c e, fun p hp => absurd (show p ∈ ([] : List (Addr × Obj)) ++ [] from hp) (by simp)⟩
  have loop : codeAny (model X.prog X.w) X.A (.compLoop (.ListComp elt [⟨tg, iter, [], 0⟩] scope pos) 0 (.ref it) (.ref L) ce) (compPost (model X.prog X.w) X.A X.xe use Qf (.ref L) sd.heap.objs.size) sb := by
    refine compLoop_any (fun n s' => ∃ i H', Inv (X.blk sd Hd scope ce fp) [] (wipe σ (own.map (·.2))) H' s' ∧ tn i s'.heap ∧ (∀ b ∈ fp, H' b = none) ∧ W i n H') ?_ m0 ⟨0, Hd, blk, at3, nfp, w0⟩
    rintro n s5 ⟨i, H5, I5, a5, n5, w5⟩
    rcases turn i n H5 w5 with ⟨stop, qq⟩ | ⟨go, Nx, hNx, step⟩
    · refine thnF (T.done (X.blk sd Hd scope ce fp) rfl rfl rfl hc i [] s5 _ H5 (fun _ _ => False) I5 (ours I5 n5) a5 stop) fun r s6 ⟨hr, I6⟩ => ?_
      subst hr
      have nC : H5 sd.heap.objs.size = none := by rw [← cL]; exact I6.free
      obtain ⟨m, hn, _⟩ := I6.loc
      have hn : s6.heap.Ns ce.locals m := hn
      rw [cL] at hn
      exact hR L sd.heap.objs.size s6 m H5 (door.back I6) qq hn (lay.fpOk (Nat.le_refl _) nC)
    · refine thnF (T.item (X.blk sd Hd scope ce fp) rfl rfl rfl hc i [] s5 _ H5 (fun _ _ => False) I5 (ours I5 n5) a5 go) fun r s6 ⟨u, hr, h6⟩ => ?_
      subst hr
      refine thnF h6 fun _ s7 ⟨x, H7, I7, r7, y7, a7, n7⟩ => ?_
      refine thnF (pg.run _ s7 _ H7 x u _ (I7.pinned (ours I7 n7) (T.obj _ _ a7)) r7 (step x H7 y7)) fun _ s8 ⟨σ8, H8, I8, w8, q8⟩ => ?_
      refine wpAny_tests_nil ?_
      have q9 : te σ8 H8 fun y H4 => ∃ acc, H4 L = some (.lst acc) ∧ acc.length < sizeLine ∧ Nx (upd H4 L (.lst (acc ++ [y]))) := q8
      rw [if_pos rfl]
      refine thnF (pe.run _ s8 σ8 H8 _ I8 q9) fun z s9 ⟨yv, H9, I9, r9, acc, e9, z9, nx⟩ => ?_
      refine app_ok (X := X.blk sd Hd scope ce fp) I9 e9 z9 r9 fun s10 I10 => ?_
      obtain ⟨m', hm, w'⟩ := hNx _ nx
      have pin' : ∀ b ∈ fp, ∀ o, s7.heap.get? b = some o → s10.heap.get? b = some o ∧ (upd H9 L (.lst (acc ++ [yv]))) b = none := fun b hb o e =>
        let z := I10.pin (b, o) (List.mem_append_right _ (List.mem_append_right _ (mem_pinsAt hb e)))
        ⟨z.1, z.2.1⟩
      refine ⟨m', hm, i + 1, _, (I10.unpinned (pins := [])).weak (by rw [← w8, wipe_length]) (fun j v e => ?_), T.keep _ _ _ a7 fun b hb o e => (pin' b hb o e).1, fun b hb => ?_, w'⟩
      · rw [← w8] at e
        exact (wipe_some e).1
      · obtain ⟨o, e, _⟩ := T.obj _ _ a7 b hb
        exact (pin' b hb o e).2
  exact codeAny_compStart_list loop (T.self X.A 0 _ _ _ at3 loop)
end
end Dn
set_option Elab.async false
set_option linter.all false
set_option maxRecDepth 100000
set_option maxHeartbeats 2000000
/-! Dn, 24: lambdas laid into a list, each heard: asks = [lambda: ..]; asks.append(lambda: ..); ..; caught = [heard(ask)[0] for ask in asks]. -/
namespace Dn
open PySem PySem.Spec PyProof.Rows L2
section
variable {X : Cx} {T : List (Addr × Str)} {E : XK} {k : Nat} {cs : List Str} {c p : Addr}
/-- a lambda of this frame lies at f; fe: what its body is -/
def CloAt (X : Cx) (T : List (Addr × Str)) (k : Nat) (pins : List (Addr × Obj)) (H : Hp) (f : Addr) (fe : FE) : Prop :=
  ∃ (params : Arguments) (body : Expr) (scope : Scope) (pm ctv : Value) (c' : Addr), (f, lamO X params body scope pm ctv c') ∈ pins ∧ f ∉ frs X.stack ∧ H c' = some (LamX.CodeO c' (X.env.qual ++ "<lambda>")) ∧ LamX.LamS X.env.scope scope ∧
    bindArgs (PySem.W.kla_fn "<lambda>" (X.env.qual ++ "<lambda>") params body scope (cloFrom X.env.cells scope.names []) pm (.ref c') ctv) ⟨[], []⟩ = pure [] ∧
    ∀ (A : Around) (outer : List Env) (s : Shared) (H : Hp) (E' : XK) (f c' : Addr), Good (LamX.lamCx X A outer s H E' scope f c') k E' → PE (LamX.lamCx X A outer s H E' scope f c') body (tE X.mg T E' fe)
theorem KeepC.lst {H : Hp} {la : Addr} {xs : List V} {o : HO} (e : H la = some (.lst xs)) : KeepC H (upd H la o) := fun a q h => by
  rw [upd_ne fun z => by rw [z, e] at h; unfold LamX.CodeO at h; cases h]
  exact h
theorem KeepC.new {H : Hp} {la : Addr} {o : HO} (e : H la = none) : KeepC H (upd H la o) := fun a q h => by
  rw [upd_ne fun z => by rw [z, e] at h; cases h]
  exact h
theorem CloAt.to {pins pins' : List (Addr × Obj)} {H H' : Hp} {f : Addr} {fe : FE} (h : CloAt X T k pins H f fe) (x : KeepC H H') (hp : ∀ q ∈ pins, q ∈ pins') : CloAt X T k pins' H' f fe := by
  obtain ⟨params, body, scope, pm, ctv, c', a1, a2, a3, a4, a5, a6⟩ := h
  exact ⟨params, body, scope, pm, ctv, c', hp _ a1, a2, x _ _ a3, a4, a5, a6⟩
inductive Clos (X : Cx) (T : List (Addr × Str)) (k : Nat) (pins : List (Addr × Obj)) (H : Hp) : List Addr → List FE → Prop where
  | nil : Clos X T k pins H [] []
  | cons {f : Addr} {fs : List Addr} {fe : FE} {fes : List FE} : CloAt X T k pins H f fe → Clos X T k pins H fs fes → Clos X T k pins H (f :: fs) (fe :: fes)
theorem Clos.to {pins pins' : List (Addr × Obj)} {H H' : Hp} (x : KeepC H H') (hp : ∀ q ∈ pins, q ∈ pins') : ∀ {fs : List Addr} {fes : List FE}, Clos X T k pins H fs fes → Clos X T k pins' H' fs fes
  | _, _, .nil => .nil
  | _, _, .cons a r => .cons (a.to x hp) (Clos.to x hp r)
theorem Clos.snoc {pins : List (Addr × Obj)} {H : Hp} {f : Addr} {fe : FE} (a : CloAt X T k pins H f fe) : ∀ {fs : List Addr} {fes : List FE}, Clos X T k pins H fs fes → Clos X T k pins H (fs ++ [f]) (fes ++ [fe])
  | _, _, .nil => .cons a .nil
  | _, _, .cons b r => .cons b (Clos.snoc a r)
theorem Clos.length {pins : List (Addr × Obj)} {H : Hp} : ∀ {fs : List Addr} {fes : List FE}, Clos X T k pins H fs fes → fs.length = fes.length
  | _, _, .nil => rfl
  | _, _, .cons _ r => by rw [List.length_cons, List.length_cons, Clos.length r]
theorem Clos.get {pins : List (Addr × Obj)} {H : Hp} : ∀ {fs : List Addr} {fes : List FE} {i : Nat} {f : Addr}, Clos X T k pins H fs fes → fs[i]? = some f → ∃ fe, fes[i]? = some fe ∧ CloAt X T k pins H f fe
  | _, _, i, f, .nil, e => by simp at e
  | _, _, 0, f, .cons a _, e => by
    simp at e
    subst e
    exact ⟨_, rfl, a⟩
  | _, _, i + 1, f, .cons _ r, e => by
    obtain ⟨fe, h1, h2⟩ := Clos.get (i := i) (f := f) r (by simpa using e)
    exact ⟨fe, by simpa using h1, h2⟩
/-- the list la of lambdas under way; ι₀, H₀: where it began -/
structure AskSt (X : Cx) (T : List (Addr × Str)) (k ia : Nat) (pins : List (Addr × Obj)) (ι₀ av : List Addr) (H₀ : Hp) (ρ : Ev) (η : Store) (σ : L2.St) (ι : List Addr) (H : Hp) (la : Addr) (fs : List Addr) (fes : List FE) : Prop where
  x : Ext ι₀ H₀ ι H
  st : StRep X.mg T ι (la :: av) H η
  at_ : H la = some (.lst (fs.map V.ref))
  sim : Sim X.mg ι (la :: av) ρ σ H
  var : σ[ia]? = some (some (.ref la))
  n0 : H₀ la = none
  clo : Clos X T k pins H fs fes
/-- the lambda is made and pinned -/
theorem lam_step {pins : List (Addr × Obj)} {s : Shared} {σ : L2.St} {H : Hp} {ι av : List Addr} {η : Store} {params : Arguments} {body : Expr} {scope : Scope} {lpos : Pos} {fe : FE} {Q : Value → Shared → Prop} {E₁ : Value → Shared → Prop} (I : Inv X pins σ H s) (t : StRep X.mg T ι av H η) (LA : LamAt X T c p) (L : LamX.LamS X.env.scope scope)
    (hfr : X.env.frame = some X.env.locals) (hst : X.stack = X.env :: X.outer) (hdef : defaultsOf params X.env = ([], [])) (hbind : ∀ (q : Str) (cl : List (Str × Addr)) (pm cv ctv : Value), bindArgs (PySem.W.kla_fn "<lambda>" q params body scope cl pm cv ctv) ⟨[], []⟩ = pure [])
    (hbody : ∀ (A : Around) (outer : List Env) (s : Shared) (H : Hp) (E' : XK) (f c' : Addr), Good (LamX.lamCx X A outer s H E' scope f c') k E' → PE (LamX.lamCx X A outer s H E' scope f c') body (tE X.mg T E' fe))
    (h : ∀ (f : Addr) (fo : Obj) (H1 : Hp) (s' : Shared), Inv X (pins ++ [(f, fo)]) σ H1 s' → Ext ι H ι H1 → StRep X.mg T ι av H1 η → (∀ la xs, H la = some (.lst xs) → H1 la = some (.lst xs)) → CloAt X T k (pins ++ [(f, fo)]) H1 f fe → Q (.ref f) s') :
    wpAny (model X.prog X.w) X.A (eval (.Lambda params body scope lpos) X.env) Q E₁ s := by
  refine LamX.lam_make2 I LA.tb LA.code LA.m LA.u t.tab hdef (L.has I.ok) fun f c' pm' ctv H1 s' I1 eN T1 hf hfn hnf hco => ?_
  have hfs : f ≠ X.env.locals ∧ f ∉ X.fs := by
    refine ⟨fun z => hnf ?_, fun z => hnf ?_⟩
    · rw [hst]
      exact List.mem_filterMap.mpr ⟨X.env, List.mem_cons_self, by rw [hfr, z]⟩
    · rw [hst]
      obtain ⟨e, he, q⟩ := List.mem_filterMap.mp z
      exact List.mem_filterMap.mpr ⟨e, List.mem_cons_of_mem _ he, q⟩
  refine h f _ H1 s' (I1.pins_of fun q hq => ?_) (ext_tabs eN) (t.tabs eN T1) (fun la xs e => eN la _ e nofun) ⟨params, body, scope, pm', ctv, c', List.mem_append_right _ List.mem_cons_self, hnf, hco, L, hbind _ _ _ _ _, hbody⟩
  rcases List.mem_append.mp hq with hq | hq
  · exact I1.pin q (List.mem_append_right _ hq)
  · rw [List.mem_singleton.mp hq]
    exact ⟨hf, hfn, hfs.1, hfs.2, fun v z => by cases z⟩
theorem SP.unpin {pins more : List (Addr × Obj)} {Dn : Ends} {f : Flow} {s : Shared} (h : SP X (pins ++ more) Dn f s) : SP X pins Dn f s := by
  have go : ∀ {σ : L2.St} {H : Hp}, Inv X (pins ++ more) σ H s → Inv X pins σ H s := fun I => I.pins_of fun q hq => I.pin q (List.mem_append_right _ (List.mem_append_left _ hq))
  cases f with
  | next => obtain ⟨σ', H', I, q⟩ := h; exact ⟨σ', H', go I, q⟩
  | brk => obtain ⟨σ', H', I, q⟩ := h; exact ⟨σ', H', go I, q⟩
  | cont => obtain ⟨σ', H', I, q⟩ := h; exact ⟨σ', H', go I, q⟩
  | ret u => obtain ⟨v, σ', H', I, r, q⟩ := h; exact ⟨v, σ', H', go I, r, q⟩
/-- what follows, from a list of lambdas under way -/
def AskRun (X : Cx) (T : List (Addr × Str)) (E : XK) (k ia : Nat) (sts : List Stmt) (F : List FE → FS) : Prop :=
  ∀ (pins : List (Addr × Obj)) (s : Shared) (ι₀ av : List Addr) (H₀ : Hp) (ρ : Ev) (η : Store) (σ : L2.St) (ι : List Addr) (H : Hp) (la : Addr) (fs : List Addr) (fes : List FE) (Dn : Ends), Inv X pins σ H s → AskSt X T k ia pins ι₀ av H₀ ρ η σ ι H la fs fes →
    PostS X.mg T ι₀ av H₀ E Dn (F fes ρ η) → wpAny (model X.prog X.w) X.A (execs sts X.env) (SP X pins Dn) X.xe s
/-- a slot that is not told of -/
theorem Sim.hide {mg : Str → Option Value} {ι av : List Addr} {ρ : Ev} {σ : L2.St} {H : Hp} (s : Sim mg ι av ρ σ H) (i : Nat) (v : Option V) : Sim mg ι av (ρ.set i none) (σ.set i v) H := by
  refine ⟨by rw [List.length_set, List.length_set]; exact s.len, fun j e h => ?_⟩
  by_cases hj : i = j
  · subst hj
    by_cases hi : i < ρ.length
    · rw [List.getElem?_set_self hi] at h
      cases h
    · rw [List.getElem?_eq_none (by rw [List.length_set]; omega)] at h
      cases h
  · rw [List.getElem?_set_ne hj] at h ⊢
    exact s.at_ j e h
/-- asks = [lambda: ..] -/
theorem ask_start {ia : Nat} {x : Str} {params : Arguments} {body : Expr} {scope : Scope} {lpos tpos pos ppos : Pos} {fe : FE} {rest : List Stmt} {F : List FE → FS} (G : Good X (k + 2) E) (LA : LamAt X T c p) (hr : AskRun X T E k ia rest F) (L : LamX.LamS X.env.scope scope)
    (hbody : ∀ (A : Around) (outer : List Env) (s : Shared) (H : Hp) (E' : XK) (f c' : Addr), Good (LamX.lamCx X A outer s H E' scope f c') k E' → PE (LamX.lamCx X A outer s H E' scope f c') body (tE X.mg T E' fe))
    (hi : X.N[ia]? = some x := by rfl) (hx : Loc X.env.scope x := by first | exact Or.inl rfl | exact Or.inr rfl) (hfn : X.fn x = true ∨ X.env.scope.names.lookup x = some .local := by first | exact .inl rfl | exact .inr rfl) (hfr : X.env.frame = some X.env.locals := by rfl) (hst : X.stack = X.env :: X.outer := by rfl)
    (hdef : defaultsOf params X.env = ([], []) := by rfl) (hbind : ∀ (q : Str) (cl : List (Str × Addr)) (pm cv ctv : Value), bindArgs (PySem.W.kla_fn "<lambda>" q params body scope cl pm cv ctv) ⟨[], []⟩ = pure [] := by intros; rfl)
    (hs : swapsWith (.List [.Lambda params body scope lpos] tpos) (some (.Name x ppos)) pos.line X.env = pure false := by rfl) :
    PSs X (.Assign [.Name x ppos] (.List [.Lambda params body scope lpos] tpos) pos :: rest) (tS X.mg T E fun ρ η => F [fe] (ρ.set ia none) η) := by
  refine ⟨fun pins s σ H D I ⟨ρ, η, ι, av, sm, t, h⟩ => ?_⟩
  refine wpAny_execs_cons (wpAny_Assign_Name (wpAny_List_spliced ?_) hs)
  show wpAny _ _ (spliced ((false, eval (.Lambda params body scope lpos) X.env) :: backTo tpos (starEach [] X.env))) _ _ s
  refine Calls.spliced_cons (lam_step (k := k) I t LA L hfr hst hdef hbind hbody fun f fo H1 s' I1 x1 t1 _ cl => Calls.spliced_nil ⟨by show 1 ≤ sizeLine; decide, ?_⟩)
  have hn : H1 s'.heap.objs.size = none := I1.hok.fresh (Nat.le_refl _)
  have I2 : Inv X (pins ++ [(f, fo)]) σ (upd H1 s'.heap.objs.size (.lst [.ref f])) { s' with heap := s'.heap.push { cls := .type "list", data := .seq ([Value.ref f] : List Value).toArray } } :=
    I1.laid (t' := s'.toks) (fun b o e => Heap.get?_push_of_some _ e) (Nat.le_refl _) ⟨by show 1 ≤ sizeLine; decide, [.ref f], 0, .cons rfl .nil, Heap.get?_push_size _ rfl⟩
  refine store_ok (v := .ref s'.heap.objs.size) I2 G.nd hi hx rfl (fun s3 I3 => ?_) hfn
  have hm : Mv ι av H1 ι (s'.heap.objs.size :: av) (upd H1 s'.heap.objs.size (.lst [.ref f])) := Mv.of (Ext.new hn) fun a ha => (List.mem_cons.mp ha).elim (fun z => .inr (by rw [z]; exact hn)) .inl
  have fr := t1.fresh hn
  refine thn (hr (pins ++ [(f, fo)]) s3 ι av H1 (ρ.set ia none) η (σ.set ia (some (.ref s'.heap.objs.size))) ι _ s'.heap.objs.size [f] [fe] D I3 ⟨Ext.new hn, t1.mv hm (fun a ha => upd_ne fun z => fr.1 (by rw [← z]; exact ha)) (fun a ha => ?_) (t1.new hn).tab, upd_same, ((sm.ext x1).mv hm).hide ia _, ?_, hn, .cons (cl.to (KeepC.new hn) fun q hq => hq) .nil⟩ (PostS.mono x1 h)) fun fl s4 q => SP.unpin q
  · rcases List.mem_cons.mp ha with z | z
    · exact ⟨⟨_, by rw [z]; exact upd_same⟩, by rw [z]; exact fr.1⟩
    · exact (t1.new (o := .lst [.ref f]) hn).av_ a z
  · exact List.getElem?_set_self (by rw [I.len]; exact (List.getElem?_eq_some_iff.mp hi).1)
/-- asks.append(lambda: ..) -/
theorem ask_more {ia : Nat} {x : Str} {params : Arguments} {body : Expr} {scope : Scope} {lpos npos apos cpos epos : Pos} {fe : FE} {rest : List Stmt} {F : List FE → FS} (G : Good X (k + 2) E) (LA : LamAt X T c p) (hr : AskRun X T E k ia rest F) (L : LamX.LamS X.env.scope scope)
    (hbody : ∀ (A : Around) (outer : List Env) (s : Shared) (H : Hp) (E' : XK) (f c' : Addr), Good (LamX.lamCx X A outer s H E' scope f c') k E' → PE (LamX.lamCx X A outer s H E' scope f c') body (tE X.mg T E' fe))
    (hi : X.N[ia]? = some x := by rfl) (hv : Vis X.env.scope x := by first | exact Or.inl rfl | exact Or.inr (Or.inl rfl) | exact Or.inr (Or.inr rfl)) (hfr : X.env.frame = some X.env.locals := by rfl) (hst : X.stack = X.env :: X.outer := by rfl)
    (hdef : defaultsOf params X.env = ([], []) := by rfl) (hbind : ∀ (q : Str) (cl : List (Str × Addr)) (pm cv ctv : Value), bindArgs (PySem.W.kla_fn "<lambda>" q params body scope cl pm cv ctv) ⟨[], []⟩ = pure [] := by intros; rfl)
    (hs : swapsWith (.Call (.Attribute (.Name x npos) "append" apos) [.Lambda params body scope lpos] [] cpos) none epos.line X.env = pure false := by rfl)
    (hbase : attributeBase (.Name x npos) "append" X.env (eval (.Name x npos) X.env) = eval (.Name x npos) X.env := by rfl)
    (hfew : ((backTo cpos (starEach [.Lambda params body scope lpos] X.env)).all (fun x => !x.1) && (backToKw cpos (keywordEach [] X.env)).all (fun x => x.1.isSome)
      && decide (([.Lambda params body scope lpos] : List Expr).length + ([] : List Keyword).length + (if ([] : List Keyword).isEmpty then 0 else 1) < 30)) = true := by rfl)
    (hline : (apos.endLine == cpos.line) = true := by rfl) (hd : (x == ("__debug__" : Str)) = false := by decide) (hcd : (x == ("__classdict__" : Str)) = false := by decide) :
    AskRun X T E k ia (.Expr (.Call (.Attribute (.Name x npos) "append" apos) [.Lambda params body scope lpos] [] cpos) epos :: rest) (fun fes ρ η => if fes.length < 1000 then F (fes ++ [fe]) ρ η else .stk) := by
  intro pins s ι₀ av H₀ ρ η σ ι H la fs fes D I S h
  by_cases hz : fes.length < 1000
  · simp only [if_pos hz] at h
    refine wpAny_execs_cons (wpAny_Expr_any ?_ I.quiet hs)
    refine wpAny_Call_method_late hbase hfew hline rfl (thn ((pe_var (pos := npos) hi hv hd hcd).run pins s σ H (fun v H1 => v = .ref la ∧ H1 = H) I ⟨.ref la, S.var, rfl, rfl⟩) fun v s1 ⟨y, H1, I1, r1, ey, eH⟩ => ?_)
    subst ey eH
    obtain ⟨h1, h2⟩ := tyV_is (T := "list") I1 r1 (.inl ⟨rfl, _, SqL.of S.at_⟩)
    refine ⟨"list", "list.append", PySem.F.plainAttrs_list, PySem.F.slot_list_append, PySem.F.type_list_append, h1, h2, ?_⟩
    refine Calls.callWith_builtin (by rfl) (Calls.evalArgs_plain ?_)
    show wpAny _ _ (spliced ((false, eval (.Lambda params body scope lpos) X.env) :: backTo cpos (starEach [] X.env))) _ _ s1
    refine Calls.spliced_cons (lam_step (k := k) I1 S.st LA L hfr hst hdef hbind hbody fun f fo H2 s2 I2 x2 t2 kl cl => Calls.spliced_nil ?_)
    have el := kl la _ S.at_
    refine thn (mt_append (pins ++ [(f, fo)]) s2 σ H2 (.ref la) [.ref f] v [.ref f] (fun v' H' => H' = upd H2 la (.lst (fs.map V.ref ++ [.ref f]))) I2 r1 (.cons rfl .nil) ⟨la, _, _, rfl, rfl, el, by
      rw [List.length_map, S.clo.length, sizeLine_eq]
      omega, rfl⟩) fun v' s3 ⟨w', H3, I3, _, e3⟩ => ?_
    subst e3
    have hm : Mv ι (la :: av) H2 ι (la :: av) (upd H2 la (.lst (fs.map V.ref ++ [.ref f]))) := Mv.apart List.mem_cons_self
    have nl := (t2.av_ la List.mem_cons_self).2
    refine thn (hr (pins ++ [(f, fo)]) s3 ι₀ av H₀ ρ η σ ι _ la (fs ++ [f]) (fes ++ [fe]) D I3 ⟨⟨S.x.pre, fun a o q n kk => ?_⟩, t2.mv hm (fun a ha => upd_ne fun z => nl (by rw [← z]; exact ha)) (fun a ha => ?_) (tabs_upd el nofun nofun t2.tab), by rw [upd_same, List.map_append]; rfl, (S.sim.ext x2).mv hm, S.var, S.n0, ?_⟩ h) fun fl s4 q => SP.unpin q
    · obtain ⟨q1, q2⟩ := (S.x.trans x2).keep a o q n kk
      exact ⟨by rw [upd_ne (ne_of_none q S.n0)]; exact q1, q2⟩
    · by_cases z : a = la
      · exact ⟨⟨_, by rw [z]; exact upd_same⟩, by rw [z]; exact nl⟩
      · obtain ⟨⟨xs, q⟩, q2⟩ := t2.av_ a ha
        exact ⟨⟨xs, by rw [upd_ne z]; exact q⟩, q2⟩
    · exact Clos.snoc (cl.to (KeepC.lst el) fun q hq => hq) ((S.clo.to (KeepC.ext S.st x2) fun q hq => List.mem_append_left _ hq).to (KeepC.lst el) fun q hq => hq)
  · simp only [if_neg hz] at h
    exact h.elim
end
end Dn
set_option Elab.async false
set_option linter.all false
set_option maxRecDepth 100000
set_option maxHeartbeats 2000000
/-! Dn, 25: .. the list heard. -/
namespace Dn
open PySem PySem.Spec PyProof.Rows L2
/-- heard(r)[0] -/
def heard1 (cs : List Str) (r : R D) : R D := (heardR cs r).bind fun d η => match d with
  | .tup (x :: _) => .ok x η
  | _ => .stk
def asksD (cs : List Str) (ρ : Ev) : List FE → Store → R (List D)
  | [], η => .ok [] η
  | fe :: fes, η => (heard1 cs (fe ρ η)).bind fun d η1 => (asksD cs ρ fes η1).bind fun ds η2 => .ok (d :: ds) η2
section
variable {X : Cx} {T : List (Addr × Str)} {E : XK} {k : Nat} {cs : List Str}
def tAskCall (X : Cx) (T : List (Addr × Str)) (k : Nat) (cs : List Str) (pins : List (Addr × Obj)) (σ : L2.St) (ik : Nat) : TE := fun σ' H' Q' =>
  ∃ (f : Addr) (fe : FE) (ι' av' : List Addr) (ρ : Ev) (η' : Store), σ'[ik]? = some (some (.ref f)) ∧ CloAt X T k pins H' f fe ∧ Sim X.mg ι' av' ρ σ H' ∧ StRep X.mg T ι' av' H' η' ∧ PostG X.mg T (rlE X.mg) ι' av' H' E0 Q' (heardR cs (fe ρ η'))
theorem ask_call {pins : List (Addr × Obj)} {σ : L2.St} {Hd : Hp} {sd : Shared} {fp : List Addr} {bs : Scope} {cenv : Env} {x y : Str} {st : Stmt} {ik : Nat} {np p1 cpos : Pos} (G : Good X (k + 2) E) (B : Hears X.prog X.w X.K X.mg X.base x st) (M : Errs X.prog X.K X.mg cs) (door : Door X pins σ Hd sd fp)
    (hy : X.N[ik]? = some y) (hv : Vis cenv.scope y) (hg : cenv.kindOf x = some .globalImplicit) (hdb : (x == ("__debug__" : Str)) = false) (hd : (y == ("__debug__" : Str)) = false) (hcd : (y == ("__classdict__" : Str)) = false)
    (hs : starEach [.Name y p1] cenv = (false, eval (.Name y p1) cenv) :: starEach [] cenv) :
    PE (X.blk sd Hd bs cenv fp) (.Call (.Name x np) [.Name y p1] [] cpos) (tAskCall X T k cs pins σ ik) := by
  refine ⟨fun pinsB sB σB HB Q IB ⟨f, fe, ι', av', ρ, η', hf, cl, sm, t, hp⟩ => ?_⟩
  obtain ⟨fd, F⟩ := B.d
  refine wpAny_Call_Name_kw (ld_glob IB hg B.g ?_ hdb)
  have ha : PA (X.blk sd Hd bs cenv fp) [.Name y p1] (tCons (tVar ik) tNil) := pa_cons (pe_var hy hv hd hcd) pa_nil hs
  refine PySem.W.callWith_K (h₀ := X.base) IB.ok.mod.kin F.kp (thn (ha.run cpos pinsB sB σB HB (fun vs H1 => vs = [.ref f] ∧ H1 = HB) IB ⟨.ref f, hf, rfl, rfl⟩) fun us s1 ⟨vs, H1, I1, r1, ev, eH⟩ => ⟨I1.kIn, ?_⟩) hs (by rfl)
  subst ev eH
  obtain ⟨u, rfl, ru⟩ := r1.one
  cases (show u = Value.ref f from ru)
  have IX := door.back I1
  obtain ⟨params, body, scope, pm, ctv, c', a1, a2, a3, a4, a5, a6⟩ := cl
  obtain ⟨g1, g2, _⟩ := IX.pin _ (List.mem_append_right _ a1)
  have rc : codeAny (model X.prog X.w) X.A (.call (.ref (He.ga X.K x)) ⟨[.ref f], []⟩) (CR (L2.CX X.prog X.w) X.stack X.prog X.w H1 s1 Q E0) s1 := by
    refine hear_run (r := fe ρ η') B M G.room I1.env0 g1 ⟨_, _, rfl⟩ g2 a2 (fun cd s2 H2 Q E' g3 e1 u1 x2 t2 hp => ?_) t hp
    have hr1 : Room (k + 1) (X.A.deeper (envOfC x (defScope st) s1.heap.objs.size (He.ga X.K x) cd)) := G.room.deeper _
    exact clo_run IX a4 g3 u1 (KeepC.ext t x2 _ _ a3) e1 hr1 a5 (a6 _ _ s2 H2 E' f c' (good_lam G (show (X.A.deeper _).guards = some [] from G.gd) (hr1.deeper _))) ⟨ρ, η', ι', av', sm.ext x2, t2, hp⟩
  refine wpAny_call (codeAny_mono rc fun r s2 hq => ?_)
  cases r with
  | error e =>
    obtain ⟨_, _, _, _, _, _, _, _, _, _, _, _, z⟩ := hq
    exact z.elim
  | ok fl =>
    cases fl with
    | ret u => exact I1.after hq
    | next => exact False.elim hq
    | brk => exact False.elim hq
    | cont => exact False.elim hq
theorem dIx_0 (η : Store) (d : D) (tl : List D) : dIx η (.tup (d :: tl)) (.int 0) = some d := by
  have h : ((0 : Int) < (((d :: tl).length : Nat) : Int)) := by
    rw [List.length_cons]
    omega
  show atI (d :: tl) 0 = some d
  unfold atI ixN
  rw [if_pos (by decide), if_pos h]
  rfl
theorem heard1_ok {r : R D} {d : D} {η : Store} (h : heard1 cs r = .ok d η) : ∃ l, heardR cs r = .ok (.tup (d :: l)) η := by
  unfold heard1 at h
  cases e : heardR cs r with
  | stk => rw [e] at h; cases h
  | rse c x η' => rw [e] at h; cases h
  | ok x η' =>
    rw [e] at h
    simp only [R.bind_ok] at h
    split at h
    · cases h
      exact ⟨_, rfl⟩
    · cases h
theorem heard1_not {r : R D} (h : ∀ d η, heard1 cs r ≠ .ok d η) : heard1 cs r = .stk := by
  unfold heard1 at h ⊢
  cases e : heardR cs r with
  | stk => rfl
  | rse c x η' =>
    cases r with
    | ok _ _ => cases e
    | stk => cases e
    | rse c2 x2 η2 =>
      simp only [heardR] at e
      split at e <;> cases e
  | ok x η' =>
    rw [e] at h
    simp only [R.bind_ok] at h ⊢
    split
    · rename_i y l
      exact absurd rfl (h y η')
    · rfl
/-- caught = [heard(ask)[0] for ask in asks] -/
theorem ask_end {ia ik ic : Nat} {x y z n : Str} {st : Stmt} {own : List (Str × Nat)} {scope : Scope} {np p1 p2 cpos spos tp ip lpos py pos : Pos} {j : Nat} {rest : List Stmt} {g : FS} (G : Good X (k + 2) E) (B : Hears X.prog X.w X.K X.mg X.base x st) (M : Errs X.prog X.K X.mg cs) (hr : PSs X rest (tS X.mg T E g)) (ok : BlkOk X.N X.env.scope scope own) (hown : own.map (·.2) = [ik])
    (hia : X.N[ia]? = some n := by rfl) (hva : Vis X.env.scope n := by first | exact Or.inl rfl | exact Or.inr (Or.inl rfl) | exact Or.inr (Or.inr rfl)) (hik : X.N[ik]? = some y := by rfl) (hic : X.N[ic]? = some z := by rfl) (hzl : X.env.scope.names.lookup z = some .local := by rfl)
    (hkl : ∀ (C : Addr) (cl : List (Str × Addr)), (compEnvC scope cl C X.env).scope.names.lookup y = some .local := by intros; rfl) (hg : ∀ (C : Addr) (cl : List (Str × Addr)), (compEnvC scope cl C X.env).kindOf x = some .globalImplicit := by intros; rfl)
    (hsw : swapsWith (.ListComp (.Subscript (.Call (.Name x np) [.Name y p1] [] cpos) (.Constant (.int 0) j p2) spos) [⟨.Name y tp, .Name n ip, [], 0⟩] scope lpos) (some (.Name z py)) pos.line X.env = pure true)
    (hdb : (x == ("__debug__" : Str)) = false := by decide) (hdy : (y == ("__debug__" : Str)) = false := by decide) (hcy : (y == ("__classdict__" : Str)) = false := by decide) (hdn : (n == ("__debug__" : Str)) = false := by decide) (hcn : (n == ("__classdict__" : Str)) = false := by decide)
    (hst : ∀ (C : Addr) (cl : List (Str × Addr)), starEach [.Name y p1] (compEnvC scope cl C X.env) = (false, eval (.Name y p1) (compEnvC scope cl C X.env)) :: starEach [] (compEnvC scope cl C X.env) := by intros; rfl) (hf : ∀ v, foldedSetIterable (.Name n ip) X.env v = pure v := by intro _; rfl) :
    AskRun X T E k ia (.Assign [.Name z py] (.ListComp (.Subscript (.Call (.Name x np) [.Name y p1] [] cpos) (.Constant (.int 0) j p2) spos) [⟨.Name y tp, .Name n ip, [], 0⟩] scope lpos) pos :: rest)
      (fun fes ρ η => if fes.length < 1000 then (asksD cs ρ fes η).thn fun ds η' => g (ρ.set ic (some (.lst ds))) η' else .stk) := by
  intro pins s ι₀ av H₀ ρ η σ ι H la fs fes D I S h
  by_cases hz : ¬ fes.length < 1000
  · simp only [if_neg hz] at h
    exact h.elim
  have hz := Decidable.not_not.mp hz
  simp only [if_pos hz] at h
  have hlen := S.clo.length
  have la_n : la ∉ ι := (S.st.av_ la List.mem_cons_self).2
  refine wpAny_execs_cons ?_
  rw [exec_Assign_Name_used _ _ _ _ hsw]
  refine wpAny_bind (wpAny_standAt (wpAny_bind ?_))
  show wpAny _ X.A (do let _ ← comprehension (.ListComp (.Subscript (.Call (.Name x np) [.Name y p1] [] cpos) (.Constant (.int 0) j p2) spos) [⟨.Name y tp, .Name n ip, [], 0⟩] scope lpos) scope X.env (firstIterPos [⟨.Name y tp, .Name n ip, [], 0⟩] lpos) (newList []) false (eval (.Name n ip) X.env) (some (assign (.Name z py) X.env))) _ _ s
  refine wpAny_bind (thn (comp_open (Qf := fun _ s' => wpAny (model X.prog X.w) X.A (execs rest X.env) (SP X pins D) X.xe s') (own := own) (wi := iList X.K (tVar ia)) (g := gName ik) (te := tOp (rOp X.mg T dIx) (tAskCall X T k cs pins σ ik) (tC (.int 0)))
    (Q := fun v H' => ∃ (ds : List Dn.D) (η' : Store) (ι' : List Addr), Rep X.mg ι' av H' v (.lst ds) ∧ StRep X.mg T ι' av H' η' ∧ Sim X.mg ι' av ρ σ H' ∧ Ext ι₀ H₀ ι' H' ∧ PostS X.mg T ι₀ av H₀ E D (g (ρ.set ic (some (.lst ds))) η'))
    G.calm G.nd I (pi_list (pe_var hia hva hdn hcn)) ok hf (fun s H C cl fp => pg_name G.nd hik (.inl (hkl C cl)) (.inr (hkl C cl))) (fun s H C cl fp door => ?_) ?_ ?_) fun _ s' hq => wpAny_pure (wpAny_pure hq))
  · exact pe_ix (o_ix (by exact G.hu)) (ask_call G B M door hik (.inl (hkl C cl)) (hg C cl) hdb hdy hcy (hst C cl)) pe_int (by intro _ _; rfl)
  · refine ⟨.ref la, S.var, la, rfl, ⟨_, SqL.of S.at_⟩, fun L hL => ?_⟩
    have hav : ∀ a ∈ L :: la :: av, a ∈ la :: av ∨ H a = none := fun a ha => (List.mem_cons.mp ha).elim (fun z => .inr (by rw [z]; exact hL)) .inl
    refine ⟨fun i m H' => ∃ ι' η' vs acc, Lc X.mg T ι H (la :: av) L ι' H' η' vs acc ∧ m = fs.length - i ∧ i ≤ fs.length ∧ acc.length = i ∧ PostS X.mg T ι₀ av H₀ E D ((asksD cs ρ (fes.drop i) η').thn fun ds η2 => g (ρ.set ic (some (.lst (acc ++ ds)))) η2), ⟨_, ι, η, [], [], Lc.start S.st hL, rfl, Nat.zero_le _, rfl, h⟩, ?_⟩
    rintro i m H' ⟨ι', η', vs, acc, l, rfl, hi, ha, w⟩
    have sq : SqL X.K H' la (fs.map V.ref) := SqL.of (l.x.keep la _ S.at_ la_n nofun).1
    by_cases hlt : i < fs.length
    · have hget : (fs.map V.ref)[i]? = some (.ref fs[i]) := by rw [List.getElem?_map, List.getElem?_eq_getElem hlt]; rfl
      obtain ⟨fe, hfe, cl⟩ := (S.clo.to (pins' := pins) (KeepC.ext S.st l.x) fun q hq => hq).get (List.getElem?_eq_getElem hlt)
      have hdrop : fes.drop i = fe :: fes.drop (i + 1) := by
        obtain ⟨h1, h2⟩ := List.getElem?_eq_some_iff.mp hfe
        rw [List.drop_eq_getElem_cons h1, h2]
      rw [hdrop] at w
      unfold asksD at w
      refine .inr ⟨⟨_, _, sq, hget⟩, fun H'' => ∃ ι' η' vs acc, Lc X.mg T ι H (la :: av) L ι' H'' η' vs acc ∧ fs.length - (i + 1) = fs.length - (i + 1) ∧ i + 1 ≤ fs.length ∧ acc.length = i + 1 ∧ PostS X.mg T ι₀ av H₀ E D ((asksD cs ρ (fes.drop (i + 1)) η').thn fun ds η2 => g (ρ.set ic (some (.lst (acc ++ ds)))) η2), fun H'' q => ⟨_, by omega, q⟩, fun v H'' ⟨eH, hv⟩ => ?_⟩
      subst eH
      have ev := hv _ sq
      rw [hget] at ev
      cases ev
      refine ⟨?_, ?_⟩
      · refine (Off.set _ ik _).wipe ?_ |>.trans ?_
        · intro q hq
          rw [hown]
          exact hq
        · refine List.ext_getElem? fun q => ?_
          rw [wipe_at, wipe_at, wipe_length]
          by_cases hq : q ∈ own.map (·.2) <;> simp [hq]
      · unfold tYes
        simp only [if_true]
        have hslot : ((wipe σ (own.map (·.2))).set ik (some (V.ref fs[i])))[ik]? = some (some (.ref fs[i])) := List.getElem?_set_self (by rw [wipe_length, I.len]; exact (List.getElem?_eq_some_iff.mp hik).1)
        have sm : Sim X.mg ι' (L :: la :: av) ρ σ H'' := S.sim.mv (Mv.of l.x hav)
        by_cases hex : ∃ d η1, heard1 cs (fe ρ η') = .ok d η1
        · obtain ⟨d, η1, e1⟩ := hex
          obtain ⟨tl, e2⟩ := heard1_ok e1
          rw [e1] at w
          simp only [R.bind_ok] at w
          refine ⟨fs[i], fe, ι', L :: la :: av, ρ, η', hslot, cl, sm, l.t, ?_⟩
          rw [e2]
          intro v4 H4 ι4 r4 t4 x4
          refine ⟨ι4, L :: la :: av, η1, _, .int 0, d, t4, r4, .int 0, dIx_0 _ _ _, fun v5 H5 r5 t5 x5 => ?_⟩
          have l5 := (l.keep x4 t4).keep x5 t5
          refine ⟨vs, l5.at_, by rw [l5.r.length, ha, sizeLine_eq]; omega, ι4, η1, _, _, l5.push hL r5, trivial, hlt, by rw [List.length_append, ha]; rfl, ?_⟩
          cases eas : asksD cs ρ (fes.drop (i + 1)) η1 with
          | stk => rw [eas] at w; exact w.elim
          | rse c q η2 => rw [eas] at w; exact w
          | ok ds η2 =>
            rw [eas] at w
            simp only [R.bind_ok, R.thn_ok] at w ⊢
            rw [List.append_assoc]
            exact w
        · rw [heard1_not fun d η1 z => hex ⟨d, η1, z⟩] at w
          exact w.elim
    · have ei : i = fs.length := by omega
      subst ei
      rw [List.drop_of_length_le (by omega)] at w
      obtain ⟨f1, f2⟩ := l.fin S.st hL
      have ml : Mv ι' (la :: av) H' ι' av H' := Mv.less fun a ha => List.mem_cons_of_mem _ ha
      refine .inl ⟨⟨_, sq, by rw [List.length_map]; exact Nat.le_refl _⟩, acc, η', ι', f1.mv ml, f2.mv ml (fun _ _ => rfl) (fun a ha => f2.av_ a (List.mem_cons_of_mem _ ha)) f2.tab, ?_, S.x.trans l.x, ?_⟩
      · exact (S.sim.ext l.x).mv ml
      · simpa only [asksD, R.thn_ok, List.append_nil] using w
  · intro L C s' m H' I' ⟨ds, η', ι', rv, t', sm', x', w⟩ hn f
    show wpAny _ _ (assign (.Name z py) X.env (.ref L)) _ _ _
    refine wpAny_assign_Name (store_ok2 (v := V.ref L) I' G.nd hic (.inl hzl) rfl (fun s2 I2 ⟨a, sb, ha⟩ => ?_) (.inr hzl))
    obtain ⟨f0, f1, f2, f3, f4, f5⟩ := f
    have haC : C ≠ a := by
      rcases ha with q | q
      · rw [q]; exact f1
      · exact fun e => f4 z a q e.symm
    refine ⟨m, hn.sameBut sb haC, fun h3 sb3 => ?_⟩
    exact hr.run pins _ (σ.set ic (some (.ref L))) H' D (I2.turned (t' := s2.toks) (fun b o hb e => (sb3.2 b hb).trans e) f0 f1 f3 f4 f5) ⟨ρ.set ic (some (.lst ds)), η', ι', av, sm'.set rv ic, t', PostS.mono x' w⟩
end
end Dn
set_option Elab.async false
set_option linter.all false
set_option maxRecDepth 100000
set_option maxHeartbeats 2000000
/-! Dn, 26: defs that make lambdas, by name. -/
namespace Dn
open PySem PySem.Spec PyProof.Rows L2
/-- as FunD, its code object known, with its table -/
def FunL (K : PySem.W.Frag) (mg : Str → Option Value) (base : Heap) (T : List (Addr × Str)) (x : Str) (st : Stmt) : Prop :=
  ∃ (oc : Value) (od : Option Addr) (dV kV doc pm : Value) (an : Option Addr) (c p : Addr) (ct : Value) (osl : Array (Option Value)),
    K.lookup (He.ga K x) = some ⟨oc, od, .func (PySem.W.fnOf x x (defArgs st) (defBody st) (defScope st) dV kV doc pm an (.ref c) ct), osl⟩ ∧ PySem.W.codeIn K (.ref c) x = true ∧ DflV K dV [] ∧ KwdV K kV [] ∧ PySem.W.keepIn K (.ref (He.ga K x)) = true ∧
    LamX.TabB base mg c p ∧ (p, x ++ ".<locals>." ++ "<lambda>") ∈ T ∧ ∀ q ∈ T, q.1 = p → q.2 = x ++ ".<locals>." ++ "<lambda>"
section
variable {P : Program} {w : World} {K : PySem.W.Frag} {mg : Str → Option Value} {base : Heap} {T : List (Addr × Str)} {k : Nat} {x : Str} {st : Stmt} {N ps : List Str} {fs : FS}
theorem FunL.d (h : FunL K mg base T x st) : ∃ fd, FunD K x x (defArgs st) (defBody st) (defScope st) [] [] (He.ga K x) fd := by
  obtain ⟨oc, od, dV, kV, doc, pm, an, c, p, ct, osl, h1, h2, h3, h4, h5, _⟩ := h
  exact ⟨_, ⟨⟨oc, od, dV, kV, doc, pm, an, _, ct, osl, rfl, h1, h2, h3, h4⟩, h5⟩⟩
theorem Fn1.ofL (hL : FunL K mg base T x st) (g : mg x = some (.ref (He.ga K x))) (S : FnScope N ps (defScope st)) (hb : BindOk x st ps)
    (hbody : ∀ (c p : Addr) (A : Around) (outer : List Env) (s : Shared) (H : Hp) (E : XK), LamAt (bx P w K mg base N x (defScope st) (He.ga K x) (.ref c) A outer s H E) T c p → Good (bx P w K mg base N x (defScope st) (He.ga K x) (.ref c) A outer s H E) k E → PSs (bx P w K mg base N x (defScope st) (He.ga K x) (.ref c) A outer s H E) (defBody st) (tS mg T E fs)) :
    Fn1 P w K mg base T (k + 1) x st ps (bodyF N.length fs) := by
  obtain ⟨oc, od, dV, kV, doc, pm, an, c, p, ct, osl, lk, hcd, h3, h4, h5, tb, m, u⟩ := hL
  have F : FunD K x x (defArgs st) (defBody st) (defScope st) [] [] (He.ga K x) (PySem.W.fnOf x x (defArgs st) (defBody st) (defScope st) dV kV doc pm an (.ref c) ct) := ⟨⟨oc, od, dV, kV, doc, pm, an, _, ct, osl, rfl, lk, hcd, h3, h4⟩, h5⟩
  refine ⟨⟨_, ?_, FunD.bindsN F hb, F⟩, g⟩
  have LA : ∀ (A : Around) (outer : List Env) (s : Shared) (H : Hp) (E : XK), LamAt (bx P w K mg base N x (defScope st) (He.ga K x) (.ref c) A outer s H E) T c p := fun A outer s H E => ⟨tb, rfl, m, u⟩
  exact fn_of lk hcd S fun A outer s H E G => hbody c p A outer s H E (LA _ _ _ _ _) G
end
/-! ### lambdas in a list, by values -/
def askEnd (cs : List Str) (ic : Nat) (g : FS) : List FE → FS := fun fes ρ η => if fes.length < 1000 then (asksD cs ρ fes η).thn fun ds η' => g (ρ.set ic (some (.lst ds))) η' else .stk
def askMore (fe : FE) (F : List FE → FS) : List FE → FS := fun fes ρ η => if fes.length < 1000 then F (fes ++ [fe]) ρ η else .stk
def askStart (ia : Nat) (fe : FE) (F : List FE → FS) : FS := fun ρ η => F [fe] (ρ.set ia none) η
end Dn
set_option Elab.async false
set_option linter.all false
set_option maxRecDepth 100000
set_option maxHeartbeats 2000000
/-! Dn, 27: the law is called. -/
namespace Dn
open PySem PySem.Spec PyProof.Rows L2
/-- a code object that makes lambdas, its table, their name -/
structure LamTab where
  c : Addr
  p : Addr
  q : Str
def lamT (ts : List LamTab) : List (Addr × Str) := ts.map fun t => (t.p, t.q)
abbrev bareTab : Obj := { cls := .none, data := .fields #[] }
section
variable {P : Program} {w : World} {K : PySem.W.Frag} {mg mb : Str → Option Value} {k : Nat} {fa a : Addr} {fd : FuncData} {x : Str} {s₁ : Shared} {vs : List Value} {ns : List Int} {φ : FF} {ts : List LamTab}
/-- what is tracked at the start: the script, the tables -/
def Hs (ts : List LamTab) (a : Addr) (vs : List Value) (ns : List Int) : Hp := fun b =>
  if b = a then some (.frz { cls := .type "list", data := .seq vs.toArray } (.lst (ns.map V.int))) else if ts.any (fun t => t.p == b) then some (.tbl #[]) else none
theorem Hs_a : Hs ts a vs ns a = some (.frz { cls := .type "list", data := .seq vs.toArray } (.lst (ns.map V.int))) := if_pos rfl
theorem Hs_t {t : LamTab} (h : t ∈ ts) (n : t.p ≠ a) : Hs ts a vs ns t.p = some (.tbl #[]) := by
  unfold Hs
  rw [if_neg n, if_pos (List.any_eq_true.mpr ⟨t, h, by simp⟩)]
theorem Hs_some {b : Addr} {o : HO} (h : Hs ts a vs ns b = some o) : (b = a ∧ o = .frz { cls := .type "list", data := .seq vs.toArray } (.lst (ns.map V.int))) ∨ (b ≠ a ∧ o = .tbl #[] ∧ ∃ t ∈ ts, t.p = b) := by
  unfold Hs at h
  split at h
  · rename_i e
    cases h
    exact .inl ⟨e, rfl⟩
  · rename_i e
    split at h
    · rename_i g
      cases h
      obtain ⟨t, h1, h2⟩ := List.any_eq_true.mp g
      exact .inr ⟨e, rfl, t, h1, by simpa using h2⟩
    · cases h
theorem law_callG (KX : K.In s₁.heap) (gl : s₁.heap.Ns mainGlobals mg) (bl : s₁.heap.Ns builtinsNs mb) (bb : ∀ y : Str, y ≠ "__name__" → mb y = bootBuiltins y) (nl : s₁.heap.NoLimit) (ng : s₁.gens = #[])
    (te : ∀ t ∈ ts, s₁.heap.get? t.p = some bareTab) (tn : ∀ t ∈ ts, K.lookup t.p = none) (tc : ∀ t ∈ ts, PySem.W.CodeHd s₁.heap t.c t.p)
    (bm : ∃ (m : Addr) (o : Obj), mg "__builtins__" = some (.ref m) ∧ m ≠ builtinsNs ∧ s₁.heap.get? m = some o ∧ o.cls = .type "module" ∧ o.dict = some builtinsNs ∧ o.data = .plain)
    (sa : s₁.heap.get? a = some { cls := .type "list", data := .seq vs.toArray }) (sk : K.lookup a = none) (si : IntsAre vs ns) (sl : ns.length ≤ sizeLine) (hr : Room k callerA)
    (F : ∀ base : Heap, K.In base → base.Ns mainGlobals mg → (∀ t ∈ ts, LamX.TabB base mg t.c t.p) → FnG P w K mg base (lamT ts) k fa fd [x] φ) (hb : ∀ (s : Shared) (u : Value), BindsTo s fd ⟨[u], []⟩ [(x, u)])
    (hφ : ∃ η, φ [.scr ns] [] = .ok (.bl true) η) :
    codeAny (model P w) callerA (.call (.ref fa) ⟨[.ref a], []⟩) (fun r s' => r = .ok (.ret (.bool true)) ∧ OldK s₁.heap s'.heap ∧ s'.os = s₁.os ∧ AllBare s'.gens) s₁ := by
  obtain ⟨η, hφ⟩ := hφ
  have nta : ∀ t ∈ ts, t.p ≠ a := fun t ht z => by
    have q := te t ht
    rw [z, sa] at q
    exact absurd (congrArg Obj.data (Option.some.inj q)) (by nofun)
  have un0 : ∀ {b : Addr} {o : Obj}, s₁.heap.get? b = some o → (∀ vs n, o.data ≠ .seq vs n) → o.data ≠ .fields #[] → Hs ts a vs ns b = none := fun {b o} e h1 h2 => by
    cases q : Hs ts a vs ns b with
    | none => rfl
    | some u =>
      rcases Hs_some q with ⟨e', _⟩ | ⟨_, _, t, ht, e'⟩
      · rw [e', sa] at e
        cases e
        exact absurd rfl (h1 _ _)
      · rw [← e', te t ht] at e
        cases e
        exact absurd rfl h2
  have low : ∀ {b : Addr} {o : Obj}, s₁.heap.get? b = some o → (∀ vs n, o.data ≠ .seq vs n) → o.data ≠ .fields #[] → (hidT s₁.heap (Hs ts a vs ns)).get? b = some o := fun e h1 h2 => hidT_get e (un0 e h1 h2)
  have ns_ : ∀ {b : Addr} {m : Str → Option Value}, s₁.heap.Ns b m → (hidT s₁.heap (Hs ts a vs ns)).Ns b m := fun {b m} ⟨o, es, ep, e, d, r⟩ => ⟨o, es, ep, low e (by intro _ _ z; rw [d] at z; cases z) (by intro z; rw [d] at z; cases z), d, r⟩
  have kin : K.In (hidT s₁.heap (Hs ts a vs ns)) := fun b o e => hidT_get (KX b o e) (by
    cases q : Hs ts a vs ns b with
    | none => rfl
    | some u =>
      rcases Hs_some q with ⟨e', _⟩ | ⟨_, _, t, ht, e'⟩
      · rw [e', sk] at e
        cases e
      · rw [← e', tn t ht] at e
        cases e)
  have md : L2.Mod K mg (hidT s₁.heap (Hs ts a vs ns)) := by
    refine ⟨kin, ns_ gl, ⟨mb, ns_ bl, bb⟩, ?_⟩
    obtain ⟨mc, h1, h2⟩ := nl
    exact ⟨mc, ns_ h1, h2⟩
  have tb : ∀ t ∈ ts, LamX.TabB (hidT s₁.heap (Hs ts a vs ns)) mg t.c t.p := fun t ht => by
    refine ⟨?_, ?_, fun z => ?_⟩
    · obtain ⟨o, us, file, tf, flags, tg, inF, text, tt, e1, r1, r2, r3, r4, r5, r6, r7, r8, hne⟩ := tc t ht
      refine ⟨o, us, file, tf, flags, tg, inF, text, tt, low e1 (by intro _ _ z; rw [r2] at z; cases z) (fun z => ?_), r1, r2, r3, r4, r5, r6, r7, r8, hne⟩
      rw [r2] at z
      cases z
      simp at r3
    · obtain ⟨m, o, b1, b2, b3, b4, b5, b6⟩ := bm
      refine ⟨m, o, b1, b2, fun q => ?_, fun q => ?_, low b3 (by intro _ _ z; rw [b6] at z; cases z) (by intro z; rw [b6] at z; cases z), b4, b5, b6⟩
      · obtain ⟨o', es, ep, e, hd, _⟩ := gl
        rw [q, e] at b3
        cases b3
        rw [hd] at b6
        cases b6
      · rw [q, te t ht] at b3
        cases b3
        cases b6
    · obtain ⟨o', es, ep, e, hd, _⟩ := gl
      rw [z, te t ht] at e
      cases e
      cases hd
  have ok : HOk P w (Hs ts a vs ns) s₁.heap := fun b u z => by
    rcases Hs_some z with ⟨e', eu⟩ | ⟨_, eu, t, ht, e'⟩
    · rw [e', eu]
      exact ⟨sa, by rw [List.length_map]; exact sl, vs, _, vals_ints si, sa⟩
    · rw [← e', eu]
      exact te t ht
  have e0 : Env0 P w K mg (hidT s₁.heap (Hs ts a vs ns)) callerA [] s₁ (Hs ts a vs ns) := ⟨rfl, md, fun b o e => of_hidT e, Nat.le_of_eq (hidT_size _ _), trivial, fun b hb => (nomatch (show b ∈ ([] : List Addr) from hb)), ok, .of_eq ng⟩
  have st : StRep mg (lamT ts) [] [] (Hs ts a vs ns) [] := by
    refine ⟨List.nodup_nil, rfl, fun i a m h1 h2 => by simp at h1, fun a ha => (nomatch ha), fun q hq => ?_⟩
    obtain ⟨t, ht, e⟩ := List.mem_map.mp hq
    subst e
    exact ⟨#[], Hs_t ht (nta t ht), trivial, fun pos cv h => by cases h⟩
  have rs : Reps mg [] [] (Hs ts a vs ns) [V.ref a] [D.scr ns] := .cons (.scr Hs_a (by simp) (by simp)) .nil
  refine codeAny_mono ((F _ kin (ns_ gl) tb).run callerA [] s₁ (Hs ts a vs ns) ⟨[.ref a], []⟩ [.ref a] [.ref a] [.scr ns] [] [] [] (fun v _ => v = .bl true) (fun _ _ _ => False) hr rfl e0 (hb s₁ (.ref a)) (.cons rfl .nil) rfl st rs (by
    rw [hφ]
    intro b H' ι' rb _ _
    cases rb
    rfl)) fun r s' h => ?_
  cases r with
  | error e =>
    obtain ⟨_, _, _, _, _, _, _, _, _, _, _, _, z⟩ := h
    exact z.elim
  | ok fl =>
    cases fl with
    | next => exact False.elim h
    | brk => exact False.elim h
    | cont => exact False.elim h
    | ret u =>
      obtain ⟨v, H', os, bare, un, hok', r', q⟩ := h
      cases (show v = .bl true from q)
      cases (show u = Value.bool true from r')
      have grown : ∀ t ∈ ts, ∃ more : Array Value, s'.heap.get? t.p = some { cls := .none, data := .fields more } := fun t ht => by
        obtain ⟨more, z⟩ := un.tbls t.p #[] (Hs_t ht (nta t ht))
        exact ⟨_, hok' t.p _ z⟩
      have key : ∀ b o, s₁.heap.get? b = some o → s'.heap.get? b = some o ∨ ∃ t ∈ ts, t.p = b := fun b o e => by
        cases q : Hs ts a vs ns b with
        | none => exact .inl (un.keep b o e q (by intro z; exact nomatch (show b ∈ ([] : List Addr) from z)) (by simp))
        | some u =>
          rcases Hs_some q with ⟨e', eu⟩ | ⟨_, _, t⟩
          · subst e'
            rw [sa] at e
            cases e
            exact .inl (hok' b _ (un.frzs b _ _ Hs_a)).1
          · exact .inr t
      refine ⟨rfl, ⟨fun b o e => ?_, fun b o e => ?_⟩, os, bare⟩
      · rcases key b o e with z | ⟨t, ht, z⟩
        · exact .inl z
        · obtain ⟨more, hm⟩ := grown t ht
          have e2 := te t ht
          subst z
          rw [e2] at e
          cases e
          exact .inr (.inl ⟨((tc t ht).tab e2).isCodeTable, rfl, #[], more, rfl, by rw [Array.empty_append]; exact hm⟩)
      · rcases key b o e with z | ⟨t, ht, z⟩
        · exact ⟨o, z⟩
        · obtain ⟨more, hm⟩ := grown t ht
          exact ⟨_, by rw [← z]; exact hm⟩
end
end Dn
set_option Elab.async false
set_option linter.all false
set_option maxRecDepth 100000
set_option maxHeartbeats 2000000
/-! Dn, 28: what the head leaves, looked at: the defs, the errors, the tables. -/
namespace Dn
open PySem PySem.Spec PyProof.Rows L2 He
def listO : Obj → Bool
  | ⟨.type c, _, _, _⟩ => decide (c = "list")
  | _ => false
/-- the objects that the module's names reach, no list, no bare table; the statics -/
def kE (n : Nat) (g : Addr → Option Obj) : PySem.W.Frag := (frG g (asD g n ++ [cStatics])).filter fun q => !emptyTab q.2 && !listO q.2
theorem kE_mem {n : Nat} {g : Addr → Option Obj} {a : Addr} {o : Obj} (h : (kE n g).lookup a = some o) : g a = some o ∧ emptyTab o = false ∧ listO o = false := by
  have m := lookup_mem h
  obtain ⟨m1, m2⟩ := List.mem_filter.mp m
  obtain ⟨q1, q2⟩ := ba m2
  exact ⟨frG_mem m1, by simpa using q1, by simpa using q2⟩
theorem kE_in {n : Nat} {h : Heap} : (kE n h.get?).In h := fun _ _ e => (kE_mem e).1
theorem kE_bare {n : Nat} {g : Addr → Option Obj} {a : Addr} {o : Obj} (h : g a = some o) (ht : emptyTab o = true) : (kE n g).lookup a = none := by
  cases q : (kE n g).lookup a with
  | none => rfl
  | some u =>
    obtain ⟨h1, h2, _⟩ := kE_mem q
    rw [h] at h1
    cases h1
    rw [ht] at h2
    cases h2
/-! ### the errors -/
section
variable (K : PySem.W.Frag)
def eFI (x : Str) : Addr := ma K (ga K x) "__init__"
def eFun (x : Str) : Option FuncData := match K.lookup (eFI K x) with
  | some ⟨_, _, .func fd, _⟩ => some fd
  | _ => none
def eCod (x : Str) : Addr := match eFun K x with
  | some fd => (match fd.code with
    | .ref c => c
    | _ => 0)
  | none => 0
def eCel (x : Str) : Addr := match eFun K x with
  | some fd => (match fd.closure with
    | [q] => q.2
    | _ => 0)
  | none => 0
def eBas (x : Str) : Addr := match K.lookup (eCel K x) with
  | some ⟨_, _, .cell (some (.ref b)), _⟩ => b
  | _ => 0
abbrev EW : Type := Option (Str × Str × Arguments × FuncBody × Scope × Addr × List Str × Addr)
def eW (x : Str) : EW := (eFun K x).map fun fd => (fd.name, fd.qualname, fd.params, fd.body, fd.scope, fd.globals, fd.closure.map (·.1), fd.builtins)
def eWv : EW := some ("__init__", "LayingError.__init__", eA, .stmts eB, eS, mainGlobals, ["__class__"], builtinsNs)
def eClsB (C : Addr) : Bool := match K.lookup C with
  | some ⟨.type t, _, .cls cd, sl⟩ => (match cd.mro, sl.toList with
    | .ref C' :: bm, [_, _, _, _, some (.builtin n), _] => decide (t = "type") && (decide (C' = C) && (decide (n = "ValueError.__new__") && (!cd.hasDel && (cd.hasDict && PySem.HandSPX.refsVE bm))))
    | _, _ => false)
  | _ => false
def eFunB (x : Str) : Bool := match K.lookup (eFI K x) with
  | some ⟨_, _, .func fd, _⟩ => decide (fd.defaults = .none) && (PySem.W.codeIn K fd.code "LayingError.__init__" && (match K.lookup (eCel K x) with
    | some ⟨_, _, .cell (some (.ref _)), _⟩ => true
    | _ => false))
  | _ => false
def eFilB (file x : Str) : Bool := match K.lookup (eCod K x) with
  | some ⟨_, _, .fields vs, _⟩ => (match (vs[2]? : Option Value) with
    | some (.str f _) => decide (f = file)
    | _ => false)
  | _ => false
def errB (file x : Str) : Bool := [eqO (PySem.W.nsIn K mainGlobals x) (some (some (.ref (ga K x)))), eClsB K (ga K x), eFunB K x, eFilB K file x,
  eqO (PySem.W.findIn K (.ref (ga K x)) "__setattr__") (some (some (.builtin "object.__setattr__"))), eqO (PySem.W.findIn K (.ref (ga K x)) "__getattribute__") (some (some (.builtin "BaseException.__getattribute__"))),
  eqO (PySem.W.findIn K (.ref (ga K x)) "__getattr__") (some none), eqO (PySem.W.findIn K (.ref (ga K x)) "value") (some none), eqO (PySem.W.findIn K (.ref (ga K x)) "__init__") (some (some (.ref (eFI K x)))),
  decide (PySem.W.typeIn K (.ref (eFI K x)) = some (.type "function")), PySem.W.keepIn K (.ref (ga K x)), decide (PySem.W.subIn K (.ref (ga K x)) (.type "BaseException") = some true), decide (PySem.W.subIn K (.ref (ga K x)) (.type "ValueError") = some true),
  decide (PySem.W.typeIn K (.ref (ga K x)) = some (.type "type")), PySem.W.hasDictIn K (ga K x), eqO (PySem.W.ks_superIn K (ga K x) (eBas K x) "__init__") (some (some (.builtin "ValueError.__init__"))), decide (PySem.W.mroIn K (ga K x) (.ref (eBas K x)) = some true),
  (PySem.W.clsIn K (eBas K x)).isSome, eqO (PySem.W.nsIn K cStatics "thirdparty.any") (some none), eqO (PySem.W.nsIn K mainGlobals "super") (some none),
  decide (PySem.W.kitOne K (.type "NoneType") (.ref (ga K x)) = some false), (PySem.W.clsIn K (ga K x)).isSome, eqO (PySem.W.findIn K (.ref (ga K x)) "__class__") (some (some (.builtin "object.__class__"))),
  decide (PySem.W.mroIn K (ga K x) (.type "object") = some true), decide (PySem.W.exmOne K (.ref (ga K x)) (.ref (ga K "LayingError")) = some true)].all id
def errsB (file : Str) (cs : List Str) : Bool := cs.all (errB K file) && ((cs.all fun x => cs.all fun y => decide (PySem.W.kitOne K (.ref (ga K x)) (.ref (ga K y)) = some (decide (x = y)))) &&
  (eqO (PySem.W.specialIn K (.builtin "object.__class__") "__get__") (some (some (.builtin "getset_descriptor.__get__"))) && decide (PySem.W.takesIn K (.builtin "object.__class__") = some true)))
end
theorem eCls_ok {K : PySem.W.Frag} {C : Addr} (h : eClsB K C = true) : ∃ nm q N bs bm sn sub ab col dd k0 k1 k2 k3 k5, K.lookup C = some (excClassObj nm q C N bs bm true sn sub ab col dd k0 k1 k2 k3 k5 "ValueError.__new__") ∧ PySem.HandSPX.refsVE bm = true := by
  unfold eClsB at h
  split at h
  · rename_i t dd cd sl ho
    split at h
    · rename_i C' bm k0 k1 k2 k3 n k5 hm hs
      simp only [Bool.and_eq_true, decide_eq_true_eq, Bool.not_eq_true'] at h
      obtain ⟨rfl, rfl, rfl, hdel, hd, hv⟩ := h
      obtain ⟨nm, bs, mro, ns, qn, hdc, sn, sub, ab, col, del⟩ := cd
      dsimp only at hm hdel hd
      subst hm hdel hd
      obtain ⟨l⟩ := sl
      have hs' : l = [k0, k1, k2, k3, some (.builtin "ValueError.__new__"), k5] := hs
      subst hs'
      exact ⟨nm, qn, ns, bs, bm, sn, sub, ab, col, dd, k0, k1, k2, k3, k5, ho, hv⟩
    · cases h
  · cases h
theorem eFun_ok {K : PySem.W.Frag} {x : Str} (h : eFunB K x = true) (e : eW K x = eWv) : (∃ (oc : Value) (od : Option Addr) (dV kV doc pm : Value) (an : Option Addr) (ct : Value) (osl : Array (Option Value)),
    K.lookup (eFI K x) = some ⟨oc, od, .func (PySem.W.ksFn "__init__" "LayingError.__init__" eA eB eS .none kV doc pm an (.ref (eCod K x)) ct (eCel K x)), osl⟩) ∧ PySem.W.codeIn K (.ref (eCod K x)) "LayingError.__init__" = true ∧ ∃ cl cld csl, K.lookup (eCel K x) = some ⟨cl, cld, .cell (some (.ref (eBas K x))), csl⟩ := by
  unfold eFunB at h
  split at h
  · rename_i oc od fd osl ho
    obtain ⟨h1, h2⟩ := ba h
    obtain ⟨h3, h4⟩ := ba h2
    clear h h2
    have ef : eFun K x = some fd := by
      unfold eFun
      rw [ho]
    obtain ⟨c, hc⟩ := codeIn_ref h3
    have ec : eCod K x = c := by
      unfold eCod
      rw [ef]
      dsimp only
      rw [hc]
    have ew : some (fd.name, fd.qualname, fd.params, fd.body, fd.scope, fd.globals, fd.closure.map (·.1), fd.builtins) = eWv := by
      rw [← e]
      unfold eW
      rw [ef] <;> rfl
    unfold eWv at ew
    simp only [Option.some.injEq, Prod.mk.injEq] at ew
    obtain ⟨w1, w2, w3, w4, w5, w6, w7, w8⟩ := ew
    have hcl : ∃ cc, fd.closure = [(("__class__" : Str), cc)] := by
      cases q : fd.closure with
      | nil => rw [q] at w7; cases w7
      | cons u r =>
        rw [q] at w7
        obtain ⟨u1, u2⟩ := u
        simp only [List.map_cons, List.cons.injEq, List.map_eq_nil_iff] at w7
        obtain ⟨rfl, rfl⟩ := w7
        exact ⟨u2, rfl⟩
    obtain ⟨cc, hcl⟩ := hcl
    have el : eCel K x = cc := by
      unfold eCel
      rw [ef]
      dsimp only
      rw [hcl]
    refine ⟨?_, by rw [ec, ← hc]; exact h3, ?_⟩
    · rw [ec, el]
      obtain ⟨n1, n2, n3, n4, n5, n6, n7, n8, n9, n10, n11, n12, n13, n14, n15⟩ := fd
      dsimp only at w1 w2 w3 w4 w5 w6 w8 hcl hc h1
      obtain rfl := of_decide_eq_true h1
      subst w1 w2 w3 w4 w5 w6 w8 hcl hc
      exact ⟨oc, od, .none, n9, n10, n11, n12, n14, osl, ho⟩
    · split at h4
      · rename_i cl cld b csl q
        exact ⟨cl, cld, csl, by rw [q]; unfold eBas; rw [q]⟩
      · cases h4
  · cases h
theorem eFil_ok {K : PySem.W.Frag} {file x : Str} (h : eFilB K file x = true) : ∃ ccl cdd vs ccs tf, K.lookup (eCod K x) = some ⟨ccl, cdd, .fields vs, ccs⟩ ∧ vs[2]? = some (.str file tf) := by
  unfold eFilB at h
  split at h
  · rename_i a b vs d q
    split at h
    · rename_i f t r
      refine ⟨a, b, vs, d, t, q, ?_⟩
      rw [r, of_decide_eq_true h]
    · cases h
  · cases h
theorem errC_of {P : Program} {K : PySem.W.Frag} {mg : Str → Option Value} {h : Heap} {x : Str} (X : K.In h) (G : h.Ns mainGlobals mg) (b : errB K P.main.file x = true) (e : eW K x = eWv) (ns : (P.main.scope.names.lookup ("super" : Str)).isSome = false) : ErrC P K mg x (eBas K x) (eFI K x) (eCel K x) (eCod K x) := by
  have l := List.all_eq_true.mp b
  have f : ∀ y ∈ _, y = true := l
  simp only [List.mem_cons, List.not_mem_nil, or_false, id_eq, forall_eq_or_imp, forall_eq, decide_eq_true_eq] at f
  obtain ⟨q1, q2, q3, q4, q5, q6, q7, q8, q9, q10, q11, q12, q13, q14, q15, q16, q17, q18, q19, q20, q21, q22, q23, q24, q25⟩ := f
  obtain ⟨f1, f2, f3⟩ := eFun_ok q3 e
  obtain ⟨oc, od, kV, doc, pm, an, ct, osl, f1⟩ : ∃ (oc : Value) (od : Option Addr) (kV doc pm : Value) (an : Option Addr) (ct : Value) (osl : Array (Option Value)), K.lookup (eFI K x) = some ⟨oc, od, .func (PySem.W.ksFn "__init__" "LayingError.__init__" eA eB eS .none kV doc pm an (.ref (eCod K x)) ct (eCel K x)), osl⟩ := by
    obtain ⟨a1, a2, _, a4, a5, a6, a7, a8, a9, a10⟩ := f1
    exact ⟨a1, a2, a4, a5, a6, a7, a8, a9, a10⟩
  exact ⟨PySem.W.mg_of X G (eqO_ok q1), ⟨eCls_ok q2, eqO_ok q5, eqO_ok q6, eqO_ok q7, eqO_ok q8, eqO_ok q9, q10, q11, q12, q13, q14, q15, eqO_ok q16, q17, q18, eqO_ok q19, ⟨oc, od, .none, kV, doc, pm, an, ct, osl, f1⟩, f2, eFil_ok q4, f3, ns, eqO_ok q20⟩, PySem.W.mg_none_of X G (eqO_ok q20)⟩
theorem errs_of {P : Program} {K : PySem.W.Frag} {mg : Str → Option Value} {h : Heap} {cs : List Str} (X : K.In h) (G : h.Ns mainGlobals mg) (b : errsB K P.main.file cs = true) (e : cs.map (eW K) = cs.map fun _ => eWv) (ns : (P.main.scope.names.lookup ("super" : Str)).isSome = false) (hl : mg "LayingError" = some (.ref (ga K "LayingError"))) : Errs P K mg cs := by
  obtain ⟨b1, b2⟩ := ba b
  obtain ⟨b2, b3⟩ := ba b2
  obtain ⟨b3, b4⟩ := ba b3
  have ew : ∀ x ∈ cs, eW K x = eWv := fun x hx => by
    obtain ⟨i, hi, rfl⟩ := List.mem_iff_getElem.mp hx
    have := congrArg (fun l => l[i]?) e
    simpa [List.getElem?_map, List.getElem?_eq_getElem hi] using this
  have ec : ∀ x ∈ cs, ErrC P K mg x (eBas K x) (eFI K x) (eCel K x) (eCod K x) := fun x hx => errC_of X G (List.all_eq_true.mp b1 x hx) (ew x hx) ns
  have more : ∀ x ∈ cs, PySem.W.kitOne K (.type "NoneType") (.ref (ga K x)) = some false ∧ (PySem.W.clsIn K (ga K x)).isSome = true ∧ PySem.W.findIn K (.ref (ga K x)) "__class__" = some (some (.builtin "object.__class__")) ∧ PySem.W.mroIn K (ga K x) (.type "object") = some true ∧ PySem.W.exmOne K (.ref (ga K x)) (.ref (ga K "LayingError")) = some true := fun x hx => by
    have f : ∀ y ∈ _, y = true := List.all_eq_true.mp (List.all_eq_true.mp b1 x hx)
    simp only [List.mem_cons, List.not_mem_nil, or_false, id_eq, forall_eq_or_imp, forall_eq, decide_eq_true_eq] at f
    obtain ⟨_, _, _, _, _, _, _, _, _, _, _, _, _, _, _, _, _, _, _, _, q21, q22, q23, q24, q25⟩ := f
    exact ⟨q21, q22, eqO_ok q23, q24, q25⟩
  exact ⟨fun x hx => ⟨_, _, _, _, ec x hx⟩, fun x hx y hy => of_decide_eq_true (List.all_eq_true.mp (List.all_eq_true.mp b2 x hx) y hy), fun y hy => (more y hy).1, fun x hx => (more x hx).2.1, fun x hx => (more x hx).2.2.1, eqO_ok b3, of_decide_eq_true b4, fun x hx => (more x hx).2.2.2.1, fun x hx => (more x hx).2.2.2.2, hl⟩
/-! ### the hook -/
/-- what is looked at: facts of names, defs, the makers of lambdas, the errors' classes, the file -/
structure Look where
  fa : List Fa
  fn : List DefD
  tf : List Str
  cs : List Str
  file : Str
def Look.tab (l : Look) (K : PySem.W.Frag) : List LamTab := l.tf.map fun x => ⟨(cT K (x, none)).1, (cT K (x, none)).2, x ++ ".<locals>." ++ "<lambda>"⟩
def apartB : List Addr → Bool
  | [] => true
  | a :: r => !r.contains a && apartB r
def Look.b (l : Look) (g : Addr → Option Obj) (K : PySem.W.Frag) : Bool := (l.fa.all fun f => f.ok K) && ((l.fn.all fun d => d.ok K) && (errsB K l.file l.cs && ((l.tab K).all (fun t => PySem.W.codeHdIn K t.c t.p && (match g t.p with
  | some o => emptyTab o
  | none => false)) && apartB ((l.tab K).map (·.p)))))
abbrev AlE : Type := Bool × (List FnW × List EW)
def Look.obsK (l : Look) (g : Addr → Option Obj) (K : PySem.W.Frag) : AlE := (l.b g K, (l.fn.map fun d => fnW K d.at_, l.cs.map (eW K)))
def Look.val (l : Look) : AlE := (true, (l.fn.map DefD.val, l.cs.map fun _ => eWv))
structure Look.Says (l : Look) (h : Heap) (K : PySem.W.Frag) : Prop where
  eq : l.obsK h.get? K = l.val
  nl : ∀ a o, K.lookup a = some o → listO o = false
  out : ∀ t ∈ l.tab K, K.lookup t.p = none
def Look.obs (l : Look) (n : Nat) (g : Addr → Option Obj) : AlE := l.obsK g (kE n g)
theorem Look.says_of {l : Look} {n : Nat} {h : Heap} (e : l.obs n h.get? = l.val) : l.Says h (kE n h.get?) := by
  refine ⟨e, fun a o q => (kE_mem q).2.2, fun t ht => ?_⟩
  have e1 : l.b h.get? (kE n h.get?) = true := congrArg (fun z : AlE => z.1) e
  obtain ⟨_, b⟩ := ba e1
  obtain ⟨_, b⟩ := ba b
  obtain ⟨_, b⟩ := ba b
  obtain ⟨b, _⟩ := ba b
  obtain ⟨_, b⟩ := ba (List.all_eq_true.mp b t ht)
  cases q : h.get? t.p with
  | none => rw [q] at b; cases b
  | some o => rw [q] at b; exact kE_bare q b
theorem Look.Says.tabs {l : Look} {h : Heap} {K : PySem.W.Frag} (s : l.Says h K) : ∀ t ∈ l.tab K, PySem.W.codeHdIn K t.c t.p = true ∧ h.get? t.p = some bareTab := fun t ht => by
  have e1 : l.b h.get? K = true := congrArg (fun z : AlE => z.1) s.eq
  obtain ⟨_, b⟩ := ba e1
  obtain ⟨_, b⟩ := ba b
  obtain ⟨_, b⟩ := ba b
  obtain ⟨b, _⟩ := ba b
  obtain ⟨b1, b⟩ := ba (List.all_eq_true.mp b t ht)
  refine ⟨b1, ?_⟩
  cases q : h.get? t.p with
  | none => rw [q] at b; cases b
  | some o => rw [q] at b; rw [emptyTab_eq b]
theorem Look.Says.keeps {l : Look} {h h' : Heap} {K : PySem.W.Frag} (s : l.Says h K) (k : ∀ b o, h.get? b = some o → h'.get? b = some o) : l.Says h' K := by
  have e1 : l.b h.get? K = true := congrArg (fun z : AlE => z.1) s.eq
  have e2 : ((l.fn.map fun d => fnW K d.at_, l.cs.map (eW K)) : List FnW × List EW) = (l.fn.map DefD.val, l.cs.map fun _ => eWv) := congrArg (fun z : AlE => z.2) s.eq
  refine ⟨?_, s.nl, s.out⟩
  have e3 : l.b h'.get? K = true := by
    obtain ⟨b1, b⟩ := ba e1
    obtain ⟨b2, b⟩ := ba b
    obtain ⟨b3, b⟩ := ba b
    obtain ⟨_, b5⟩ := ba b
    refine Bool.and_eq_true_iff.mpr ⟨b1, Bool.and_eq_true_iff.mpr ⟨b2, Bool.and_eq_true_iff.mpr ⟨b3, Bool.and_eq_true_iff.mpr ⟨List.all_eq_true.mpr fun t ht => ?_, b5⟩⟩⟩⟩
    obtain ⟨q1, q2⟩ := s.tabs t ht
    rw [q1, k _ _ q2]
    rfl
  exact Prod.ext e3 e2
def Look.hook (l : Look) (n : Nat) : PySem.W.Hook where
  α := AlE
  obs := fun s => l.obs n s.heap.get?
  val := fun _ => l.val
  says := fun _ h => ∃ K : PySem.W.Frag, K.In h ∧ l.Says h K
  of := fun _ _ e => ⟨_, kE_in, Look.says_of e⟩
  keeps := fun _ _ _ ⟨K, hK, c⟩ k => ⟨K, PySem.W.Frag.In.keeps hK k, c.keeps k⟩
theorem Look.obs_eq {l : Look} {n : Nat} {g : Addr → Option Obj} {s : Shared} (h : ∀ a, g a = s.heap.get? a) : l.obs n g = (l.hook n).obs s := by
  have e : g = s.heap.get? := funext h
  rw [e] <;> rfl
section
variable {l : Look} {h : Heap} {K : PySem.W.Frag} {mg : Str → Option Value}
theorem Look.Says.fact (s : l.Says h K) (i : Nat) {f : Fa} (e : l.fa[i]? = some f := by rfl) : f.ok K = true := by
  have e1 : l.b h.get? K = true := congrArg (fun z : AlE => z.1) s.eq
  exact List.all_eq_true.mp (ba e1).1 f (List.mem_of_getElem? e)
theorem Look.Says.def_ (s : l.Says h K) (i : Nat) {d : DefD} (e : l.fn[i]? = some d := by rfl) : ∃ fd, FunD K d.name d.qual d.params d.body d.scope (d.dvs K) (d.kws K) (fAd K d.at_) fd := by
  have e1 : l.b h.get? K = true := congrArg (fun z : AlE => z.1) s.eq
  have e2 : l.fn.map (fun d => fnW K d.at_) = l.fn.map DefD.val := congrArg (fun z : AlE => z.2.1) s.eq
  obtain ⟨_, b⟩ := ba e1
  have e3 : (l.fn.map fun d => fnW K d.at_)[i]? = (l.fn.map DefD.val)[i]? := by rw [e2]
  rw [List.getElem?_map, List.getElem?_map, e] at e3
  exact DefD.funD (Option.some.inj e3) (List.all_eq_true.mp (ba b).1 d (List.mem_of_getElem? e))
theorem Look.Says.errs {P : Program} (s : l.Says h K) (X : K.In h) (G : h.Ns mainGlobals mg) (hf : l.file = P.main.file) (ns : (P.main.scope.names.lookup ("super" : Str)).isSome = false) (hl : mg "LayingError" = some (.ref (ga K "LayingError"))) : Errs P K mg l.cs := by
  have e1 : l.b h.get? K = true := congrArg (fun z : AlE => z.1) s.eq
  have e2 : l.cs.map (eW K) = l.cs.map fun _ => eWv := congrArg (fun z : AlE => z.2.2) s.eq
  obtain ⟨_, b⟩ := ba e1
  obtain ⟨_, b⟩ := ba b
  obtain ⟨b, _⟩ := ba b
  exact errs_of X G (by rw [← hf]; exact b) e2 ns hl
end
end Dn
set_option Elab.async false
set_option linter.all false
set_option maxRecDepth 100000
set_option maxHeartbeats 2000000
/-! Dn, 29: the end. -/
namespace Dn
open PySem PySem.Spec PyProof.Rows L2 He
/-- the datum of a def at the top -/
def dd (x : Str) (st : Stmt) : DefD := ⟨(x, none), x, x, defArgs st, defBody st, defScope st, [], []⟩
theorem FunD.uniq {K : PySem.W.Frag} {x q : Str} {a a' : Arguments} {b b' : List Stmt} {s s' : Scope} {dv dv' : List V} {kw kw' : List (Str × V)} {f : Addr} {fd fd' : FuncData} (h : FunD K x q a b s dv kw f fd) (h' : FunD K x q a' b' s' dv' kw' f fd') : fd = fd' := by
  obtain ⟨_, _, _, _, _, _, _, _, _, _, rfl, l, _⟩ := h.ex
  obtain ⟨_, _, _, _, _, _, _, _, _, _, rfl, l', _⟩ := h'.ex
  rw [l] at l'
  have z := congrArg Obj.data (Option.some.inj l')
  exact Data.func.inj z
theorem apart_inj {α : Type} {f : α → Addr} : ∀ {l : List α}, apartB (l.map f) = true → ∀ a ∈ l, ∀ b ∈ l, f a = f b → a = b
  | [], _, a, ha, _, _, _ => nomatch ha
  | c :: r, h, a, ha, b, hb, e => by
    obtain ⟨h1, h2⟩ := ba (show (!(r.map f).contains (f c) && apartB (r.map f)) = true from h)
    have no : ∀ z ∈ r, f z ≠ f c := fun z hz q => by
      have : (r.map f).contains (f c) = true := List.contains_iff_mem.mpr (List.mem_map.mpr ⟨z, hz, q⟩)
      rw [this] at h1
      cases h1
    rcases List.mem_cons.mp ha with p | p
    · rcases List.mem_cons.mp hb with q | q
      · rw [p, q]
      · exact absurd (by rw [← p, e]) (no b q)
    · rcases List.mem_cons.mp hb with q | q
      · exact absurd (by rw [← q, e]) (no a p)
      · exact apart_inj h2 a p b q e
section
variable {l : Look} {h base : Heap} {K : PySem.W.Frag} {mg : Str → Option Value}
theorem Look.Says.maker (s : l.Says h K) (i : Nat) {x : Str} {st : Stmt} (tb : ∀ t ∈ l.tab K, LamX.TabB base mg t.c t.p) (e : l.fn[i]? = some (dd x st) := by rfl) (hx : x ∈ l.tf := by decide) : FunL K mg base (lamT (l.tab K)) x st := by
  obtain ⟨fd, F⟩ := s.def_ i e
  obtain ⟨oc, od, dV, kV, doc, pm, an, cdv, ct, osl, rfl, lk, hcd, hd, hk⟩ := F.ex
  obtain ⟨c, rfl⟩ := codeIn_ref hcd
  have ec : codeOf K (x, none) = c := codeOf_eq (p := (x, none)) lk rfl
  have ht : (⟨(cT K (x, none)).1, (cT K (x, none)).2, x ++ ".<locals>." ++ "<lambda>"⟩ : LamTab) ∈ l.tab K := List.mem_map.mpr ⟨x, hx, rfl⟩
  have t := tb _ ht
  rw [show (cT K (x, none)).1 = c from ec] at t
  refine ⟨oc, od, dV, kV, doc, pm, an, c, _, ct, osl, lk, hcd, hd, hk, F.kp, t, List.mem_map.mpr ⟨_, ht, rfl⟩, fun q hq z => ?_⟩
  obtain ⟨u, hu, rfl⟩ := List.mem_map.mp hq
  have e1 : l.b h.get? K = true := congrArg (fun z : AlE => z.1) s.eq
  obtain ⟨_, b⟩ := ba e1
  obtain ⟨_, b⟩ := ba b
  obtain ⟨_, b⟩ := ba b
  obtain ⟨_, b⟩ := ba b
  rw [apart_inj b u hu _ ht z]
theorem walk_dn {l : PySem.W.OpenLaw} {lk : Look} {n k m : Nat} {q : Program} {loose : List Str} {XP : (Str → Option Value) → Heap → Prop} {d : DefRec} {x : Str} {st : Stmt} {φ : FF} (hn : l.most = some n) (hn2 : n ≤ sizeLine) (hdf : d.params.defaults = []) (hr : Room k callerA) (hname : d.name = ("law" : Str))
    (F : ∀ (w : World) (mg : Str → Option Value) (h : Heap) (K : PySem.W.Frag) (base : Heap), K.In h → h.Ns mainGlobals mg → lk.Says h K → (∀ t ∈ lk.tab K, LamX.TabB base mg t.c t.p) → Fn1 l.prog w K mg base (lamT (lk.tab K)) k "law" st [x] φ)
    (i : Nat) (hD : lk.fn[i]? = some (dd "law" st)) (j : Nat) (hg : lk.fa[j]? = some (.glo "law")) (bi : BindOk "law" st [x])
    (hφ : ∀ ns : List Int, ns.length ≤ n → (∀ z ∈ ns, Builtin.Int.intBits z ≤ 1048576) → ∃ η, φ [.scr ns] [] = .ok (.bl true) η) :
    PySem.W.WalkO q loose XP (lk.hook m).says l.row.toRowW d [] (fun f vs => PySem.call f vs) := by
  refine Att.attach_callB hn hdf fun w s₀ s₁ mg mb fa o pm cd doc a vs ns G Y ho hd hcd hmg hobj hints hlen hbits hng => ?_
  obtain ⟨K, KX, s⟩ := Y
  have hmg' : mg ("law" : Str) = some (.ref fa) := by rw [← hname]; exact hmg
  have e := hmg'.symm.trans (glo_ok KX G.T.g (s.fact j hg))
  cases e
  obtain ⟨fd, FD⟩ := s.def_ i hD
  have sk : K.lookup a = none := by
    cases q : K.lookup a with
    | none => rfl
    | some u =>
      have u1 := KX a u q
      rw [hobj] at u1
      cases u1
      exact absurd (s.nl a _ q) (show ¬ (decide (("list" : String) = "list") = false) by decide)
  refine law_callG (fd := fd) (x := x) (ts := lk.tab K) KX G.T.g G.T.b G.T.builtins G.T.nolimit hng (fun t ht => (s.tabs t ht).2) s.out (fun t ht => PySem.W.codeHd_of_K KX (s.tabs t ht).1) G.T.bmain hobj sk hints (Nat.le_trans hlen hn2) hr (fun base _ _ tb => ?_) (fun s' u => ?_) (hφ ns hlen hbits)
  · obtain ⟨fd', F1, _, FD'⟩ := (F w mg _ K base KX G.T.g s tb).ex
    have : fd = fd' := FunD.uniq (K := K) (f := ga K "law") FD FD'
    rw [this]
    exact F1
  · exact FunD.bindsA (ps := [x]) FD bi s' [u] rfl
end
end Dn
set_option Elab.async false
set_option linter.all false
set_option maxRecDepth 100000
set_option maxHeartbeats 2000000
/-! Dn, 30: loops over lists, as recursions; plain. -/
namespace Dn
open PySem PySem.Spec PyProof.Rows L2
def lcL (g : FG) (tt : FT) (te : FE) (ρ : Ev) : List D → List D → Store → R (List D)
  | [], acc, η => .ok acc η
  | d :: ds, acc, η => (g d ρ η).bindN fun ρ2 η2 => (tt ρ2 η2).bindN fun b η3 => if b then (te ρ2 η3).bindN fun y η4 => if acc.length < sizeLine then lcL g tt te ρ ds (acc ++ [y]) η4 else .stk else lcL g tt te ρ ds acc η3
theorem bindN_congr {α β : Type} {r : R α} {k k' : α → Store → R β} (h : ∀ a η, k a η = k' a η) : r.bindN k = r.bindN k' := by
  cases r with
  | ok a η => exact h a η
  | _ => rfl
theorem thn_congr {α : Type} {r : R α} {k k' : α → Store → RS} (h : ∀ a η, k a η = k' a η) : r.thn k = r.thn k' := by
  cases r with
  | ok a η => exact h a η
  | _ => rfl
theorem onS_congr {r : RS} {k k' : Ev → Store → RS} (h : ∀ a η, k a η = k' a η) : onS r k = onS r k' := by
  cases r with
  | nx a η => exact h a η
  | ct a η => exact h a η
  | _ => rfl
theorem lcN_eq {g : FG} {tt : FT} {te : FE} {ρ : Ev} {xs : List D} : ∀ (n k : Nat) (acc : List D) (η : Store), k ≤ xs.length → xs.length < n + k → lcN (itF xs) g tt te ρ n k acc η = lcL g tt te ρ (xs.drop k) acc η
  | 0, k, acc, η, hk, h => by omega
  | n + 1, k, acc, η, hk, h => by
    unfold lcN
    by_cases hlt : k < xs.length
    · rw [List.drop_eq_getElem_cons hlt]
      unfold lcL
      have e : (itF xs).item k η = some (some xs[k]) := by
        show some xs[k]? = _
        rw [List.getElem?_eq_getElem hlt]
      rw [e]
      dsimp only
      refine bindN_congr fun ρ2 η2 => bindN_congr fun b η3 => ?_
      cases b with
      | false => exact lcN_eq n (k + 1) acc η3 hlt (by omega)
      | true =>
        refine bindN_congr fun y η4 => ?_
        by_cases hz : acc.length < sizeLine
        · rw [if_pos hz, if_pos hz]
          exact lcN_eq n (k + 1) _ η4 hlt (by omega)
        · rw [if_neg hz, if_neg hz]
    · have hk' : k = xs.length := by omega
      subst hk'
      have e : (itF xs).item xs.length η = some none := by
        show some xs[xs.length]? = _
        rw [List.getElem?_eq_none (Nat.le_refl _)]
      rw [e, List.drop_length]
      rfl
theorem lcN_step {J : ItD} {g : FG} {tt : FT} {te : FE} {ρ : Ev} : ∀ (n k : Nat) (acc : List D) (η : Store), lcN J g tt te ρ n k acc η ≠ .stk → lcN J g tt te ρ (n + 1) k acc η = lcN J g tt te ρ n k acc η
  | 0, k, acc, η, h => absurd rfl h
  | n + 1, k, acc, η, h => by
    unfold lcN at h
    unfold lcN
    cases e : J.item k η with
    | none => rfl
    | some o =>
      cases o with
      | none => rfl
      | some d =>
        rw [e] at h
        dsimp only at h ⊢
        cases e1 : g d ρ η with
        | ok ρ2 η2 =>
          rw [e1] at h
          simp only [R.bindN] at h ⊢
          cases e2 : tt ρ2 η2 with
          | ok b η3 =>
            rw [e2] at h
            dsimp only at h ⊢
            cases b with
            | false => exact lcN_step n (k + 1) acc η3 h
            | true =>
              simp only [if_true] at h ⊢
              cases e3 : te ρ2 η3 with
              | ok y η4 =>
                rw [e3] at h
                dsimp only at h ⊢
                by_cases hz : acc.length < sizeLine
                · rw [if_pos hz] at h ⊢
                  rw [if_pos hz]
                  exact lcN_step n (k + 1) _ η4 h
                · rw [if_neg hz, if_neg hz]
              | _ => rfl
          | _ => rfl
        | _ => rfl
theorem limR_lc {g : FG} {tt : FT} {te : FE} {ρ : Ev} {xs : List D} {acc : List D} {η : Store} : limR (fun n => lcN (itF xs) g tt te ρ n 0 acc η) = lcL g tt te ρ xs acc η := by
  by_cases h : lcL g tt te ρ xs acc η = .stk
  · rw [h]
    unfold limR
    split
    · rename_i ex
      have hs := Classical.choose_spec ex
      exfalso
      refine hs ?_
      have up : ∀ n j, lcN (itF xs) g tt te ρ n 0 acc η ≠ .stk → lcN (itF xs) g tt te ρ (n + j) 0 acc η = lcN (itF xs) g tt te ρ n 0 acc η := fun n j hn => by
        induction j with
        | zero => rfl
        | succ j ih => rw [← Nat.add_assoc, lcN_step _ _ _ _ (by rw [ih]; exact hn), ih]
      refine (up _ (xs.length + 1) hs).symm.trans ?_
      rw [lcN_eq _ 0 acc η (Nat.zero_le _) (by omega)]
      exact h
    · rfl
  · exact limR_eq (fun n hn => lcN_step n 0 acc η hn) (n := xs.length + 1) (by rw [lcN_eq _ 0 acc η (Nat.zero_le _) (by omega)]; rfl) h
def forL (g : FG) (b : FS) : List D → Ev → Store → RS
  | [], ρ, η => .nx ρ η
  | d :: ds, ρ, η => (g d ρ η).thn fun ρ1 η1 => onS (b ρ1 η1) fun ρ2 η2 => forL g b ds ρ2 η2
theorem forN_eq {g : FG} {b : FS} {xs : List D} : ∀ (n k : Nat) (ρ : Ev) (η : Store), k ≤ xs.length → xs.length < n + k → forN (itF xs) g b n k ρ η = forL g b (xs.drop k) ρ η
  | 0, k, ρ, η, hk, h => by omega
  | n + 1, k, ρ, η, hk, h => by
    unfold forN
    by_cases hlt : k < xs.length
    · rw [List.drop_eq_getElem_cons hlt]
      unfold forL
      have e : (itF xs).item k η = some (some xs[k]) := by
        show some xs[k]? = _
        rw [List.getElem?_eq_getElem hlt]
      rw [e]
      dsimp only
      exact thn_congr fun ρ1 η1 => onS_congr fun ρ2 η2 => forN_eq n (k + 1) ρ2 η2 hlt (by omega)
    · have hk' : k = xs.length := by omega
      subst hk'
      have e : (itF xs).item xs.length η = some none := by
        show some xs[xs.length]? = _
        rw [List.getElem?_eq_none (Nat.le_refl _)]
      rw [e, List.drop_length]
      rfl
theorem forN_step {J : ItD} {g : FG} {b : FS} : ∀ (n k : Nat) (ρ : Ev) (η : Store), forN J g b n k ρ η ≠ .stk → forN J g b (n + 1) k ρ η = forN J g b n k ρ η
  | 0, k, ρ, η, h => absurd rfl h
  | n + 1, k, ρ, η, h => by
    unfold forN at h
    unfold forN
    cases e : J.item k η with
    | none => rfl
    | some o =>
      cases o with
      | none => rfl
      | some d =>
        rw [e] at h
        dsimp only at h ⊢
        cases e1 : g d ρ η with
        | ok ρ1 η1 =>
          rw [e1] at h
          simp only [R.thn_ok] at h ⊢
          cases e2 : b ρ1 η1 with
          | nx ρ2 η2 =>
            rw [e2] at h
            exact forN_step n (k + 1) ρ2 η2 h
          | ct ρ2 η2 =>
            rw [e2] at h
            exact forN_step n (k + 1) ρ2 η2 h
          | _ => rfl
        | _ => rfl
theorem limS_for {g : FG} {b : FS} {xs : List D} {ρ : Ev} {η : Store} : limS (fun n => forN (itF xs) g b n 0 ρ η) = forL g b xs ρ η := by
  by_cases h : forL g b xs ρ η = .stk
  · rw [h]
    unfold limS
    split
    · rename_i ex
      have hs := Classical.choose_spec ex
      exfalso
      refine hs ?_
      have up : ∀ n j, forN (itF xs) g b n 0 ρ η ≠ .stk → forN (itF xs) g b (n + j) 0 ρ η = forN (itF xs) g b n 0 ρ η := fun n j hn => by
        induction j with
        | zero => rfl
        | succ j ih => rw [← Nat.add_assoc, forN_step _ _ _ _ (by rw [ih]; exact hn), ih]
      refine (up _ (xs.length + 1) hs).symm.trans ?_
      rw [forN_eq _ 0 ρ η (Nat.zero_le _) (by omega)]
      exact h
    · rfl
  · exact limS_eq (fun n hn => forN_step n 0 ρ η hn) (n := xs.length + 1) (by rw [forN_eq _ 0 ρ η (Nat.zero_le _) (by omega)]; rfl) h
theorem whN_step {c : FT} {b : FS} : ∀ (n : Nat) (ρ : Ev) (η : Store), whN c b n ρ η ≠ .stk → whN c b (n + 1) ρ η = whN c b n ρ η
  | 0, ρ, η, h => absurd rfl h
  | n + 1, ρ, η, h => by
    unfold whN at h
    unfold whN
    cases e1 : c ρ η with
    | ok y η1 =>
      rw [e1] at h
      simp only [R.thn_ok] at h ⊢
      cases y with
      | false => rfl
      | true =>
        simp only [if_true] at h ⊢
        cases e2 : b ρ η1 with
        | nx ρ2 η2 =>
          rw [e2] at h
          exact whN_step n ρ2 η2 h
        | ct ρ2 η2 =>
          rw [e2] at h
          exact whN_step n ρ2 η2 h
        | _ => rfl
    | _ => rfl
/-- a while, by its steps -/
theorem sWh_stop {c : FT} {b : FS} {ρ : Ev} {η η1 : Store} (h : c ρ η = .ok false η1) : sWh c b ρ η = .nx ρ η1 :=
  limS_eq (fun n hn => whN_step n ρ η hn) (n := 1) (by unfold whN; rw [h]; rfl) nofun
theorem sWh_go {c : FT} {b : FS} {ρ ρ2 : Ev} {η η1 η2 : Store} (h : c ρ η = .ok true η1) (hb : b ρ η1 = .nx ρ2 η2) : sWh c b ρ η = sWh c b ρ2 η2 := by
  have key : ∀ n, whN c b (n + 1) ρ η = whN c b n ρ2 η2 := fun n => by
    conv => lhs; unfold whN
    rw [h]
    simp only [R.thn_ok, if_true]
    rw [hb]
    rfl
  by_cases e : sWh c b ρ2 η2 = .stk
  · rw [e]
    unfold sWh limS
    split
    · rename_i ex
      exfalso
      have hs := Classical.choose_spec ex
      have hs2 := whN_step _ _ _ hs
      rw [key] at hs2
      have hq : whN c b (Classical.choose ex) ρ2 η2 ≠ .stk := by rw [hs2]; exact hs
      have := limS_eq (fun n hn => whN_step n ρ2 η2 hn) rfl hq
      exact hq (this.symm.trans e)
    · rfl
  · obtain ⟨n, hn⟩ := limS_is (P := fun r => r = sWh c b ρ2 η2) (F := fun n => whN c b n ρ2 η2) rfl (fun z => e z.symm)
    exact limS_eq (fun n hn => whN_step n ρ η hn) (n := n + 1) ((key n).trans hn) e
/-! ### rules by values -/
theorem fLc_eq {it : FI} {g : FG} {tt : FT} {te : FE} {vs : List Nat} {ρ : Ev} {η η1 : Store} {xs : List D} (h : it ρ η = .ok (itF xs) η1) : fLc it g tt te vs ρ η = (lcL g tt te (wipeD ρ vs) xs [] η1).bind fun ys η2 => .ok (.lst ys) η2 := by
  unfold fLc
  rw [h]
  simp only [R.bind_ok]
  rw [limR_lc]
theorem sFor_eq {it : FI} {g : FG} {b : FS} {ρ : Ev} {η η1 : Store} {xs : List D} (h : it ρ η = .ok (itF xs) η1) : sFor it g b ρ η = forL g b xs ρ η1 := by
  unfold sFor
  rw [h]
  simp only [R.thn_ok]
  exact limS_for
/-- a comprehension that leaves the store as it is -/
theorem lcL_list {g : FG} {tt : FT} {te : FE} {ρ : Ev} {η : Store} {α : Type} (f : α → D) (p : α → Bool) (r : α → D) : ∀ (l : List α) (acc : List D), acc.length + l.length ≤ sizeLine → (∀ a ∈ l, ∃ ρ2, g (f a) ρ η = .ok ρ2 η ∧ tt ρ2 η = .ok (p a) η ∧ (p a = true → te ρ2 η = .ok (r a) η)) →
    lcL g tt te ρ (l.map f) acc η = .ok (acc ++ (l.filter p).map r) η
  | [], acc, _, _ => by simp [lcL]
  | a :: l, acc, hl, h => by
    obtain ⟨ρ2, h1, h2, h3⟩ := h a List.mem_cons_self
    rw [List.length_cons] at hl
    rw [List.map_cons]
    unfold lcL
    rw [h1]
    simp only [R.bindN]
    rw [h2]
    dsimp only
    cases hp : p a with
    | false =>
      simp only [Bool.false_eq_true, if_false]
      rw [lcL_list f p r l acc (by omega) fun b hb => h b (List.mem_cons_of_mem _ hb), List.filter_cons_of_neg (by rw [hp]; simp)]
    | true =>
      simp only [if_true]
      rw [h3 hp]
      dsimp only
      rw [if_pos (by omega), lcL_list f p r l (acc ++ [r a]) (by rw [List.length_append, List.length_singleton]; omega) fun b hb => h b (List.mem_cons_of_mem _ hb), List.filter_cons_of_pos hp, List.map_cons, List.append_assoc]
      rfl
theorem lcL_all {g : FG} {te : FE} {ρ : Ev} {η : Store} {α : Type} (f r : α → D) (l : List α) (hl : l.length ≤ sizeLine) (h : ∀ a ∈ l, ∃ ρ2, g (f a) ρ η = .ok ρ2 η ∧ te ρ2 η = .ok (r a) η) : lcL g fYes te ρ (l.map f) [] η = .ok (l.map r) η := by
  have z := lcL_list (g := g) (tt := fYes) (te := te) (ρ := ρ) (η := η) f (fun _ => true) r l [] (by rw [List.length_nil, Nat.zero_add]; exact hl) fun a ha => by
    obtain ⟨ρ2, h1, h2⟩ := h a ha
    exact ⟨ρ2, h1, rfl, fun _ => h2⟩
  rw [z, List.nil_append, List.filter_eq_self.mpr fun _ _ => rfl]
/-- [te for x in f] over a list at hand -/
theorem fLc_all {it : FI} {g : FG} {te : FE} {vs : List Nat} {ρ : Ev} {η : Store} {α : Type} (f r : α → D) (l : List α) (hi : it ρ η = .ok (itF (l.map f)) η) (hl : l.length ≤ sizeLine) (h : ∀ a ∈ l, ∃ ρ2, g (f a) (wipeD ρ vs) η = .ok ρ2 η ∧ te ρ2 η = .ok (r a) η) : fLc it g fYes te vs ρ η = .ok (.lst (l.map r)) η := by
  rw [fLc_eq hi, lcL_all f r l hl h]
  rfl
theorem fLc_list {it : FI} {g : FG} {tt : FT} {te : FE} {vs : List Nat} {ρ : Ev} {η : Store} {α : Type} (f : α → D) (p : α → Bool) (r : α → D) (l : List α) (hi : it ρ η = .ok (itF (l.map f)) η) (hl : l.length ≤ sizeLine) (h : ∀ a ∈ l, ∃ ρ2, g (f a) (wipeD ρ vs) η = .ok ρ2 η ∧ tt ρ2 η = .ok (p a) η ∧ (p a = true → te ρ2 η = .ok (r a) η)) : fLc it g tt te vs ρ η = .ok (.lst ((l.filter p).map r)) η := by
  rw [fLc_eq hi, lcL_list f p r l [] (by rw [List.length_nil, Nat.zero_add]; exact hl) h]
  rfl
/-- for x in f: b, with an invariant -/
theorem forL_inv {g : FG} {b : FS} (I : List D → Ev → Store → Prop) : ∀ (xs : List D) (ρ : Ev) (η : Store), I xs ρ η → (∀ d ds ρ η, I (d :: ds) ρ η → ∃ ρ1 η1, g d ρ η = .ok ρ1 η1 ∧ ∃ ρ2 η2, (b ρ1 η1 = .nx ρ2 η2 ∨ b ρ1 η1 = .ct ρ2 η2) ∧ I ds ρ2 η2) → ∃ ρ' η', forL g b xs ρ η = .nx ρ' η' ∧ I [] ρ' η'
  | [], ρ, η, h, _ => ⟨ρ, η, rfl, h⟩
  | d :: ds, ρ, η, h, k => by
    obtain ⟨ρ1, η1, h1, ρ2, η2, h2, h3⟩ := k d ds ρ η h
    obtain ⟨ρ', η', h4, h5⟩ := forL_inv I ds ρ2 η2 h3 k
    refine ⟨ρ', η', ?_, h5⟩
    unfold forL
    rw [h1]
    rcases h2 with h2 | h2
    · simp only [R.thn_ok, h2, onS, h4]
    · simp only [R.thn_ok, h2, onS, h4]
end Dn
set_option Elab.async false
set_option linter.all false
set_option maxRecDepth 100000
set_option maxHeartbeats 0
namespace K71
open PySem PySem.Spec PyProof.Rows L2 Dn
def top (i : Nat) : Stmt := PySem.Challenge.pw_rowunderrow_k71_whole_series_of_numbers.main.body.getD i (.Pass ⟨0, 0, 0, 0⟩)
def cs : List Str := ["BadInt", "BadTold"]
/-- what the names of the text are -/
structure Nv (P : Program) (w : World) (K : PySem.W.Frag) (mg : Str → Option Value) (base : Heap) (T : List (Addr × Str)) : Prop where
  b_abs : mg "abs" = none
  b_all : mg "all" = none
  b_bool : mg "bool" = none
  b_enumerate : mg "enumerate" = none
  b_int : mg "int" = none
  b_isinstance : mg "isinstance" = none
  b_len : mg "len" = none
  b_list : mg "list" = none
  b_max : mg "max" = none
  b_min : mg "min" = none
  b_range : mg "range" = none
  b_repr : mg "repr" = none
  b_str : mg "str" = none
  b_sum : mg "sum" = none
  b_tuple : mg "tuple" = none
  b_zip : mg "zip" = none
  c_FOUR : ∃ t, mg "FOUR" = some (.int 4 t)
  c_MOST_NUMBER : ∃ t, mg "MOST_NUMBER" = some (.int 1000000 t)
  c_MOST_NUMBERS : ∃ t, mg "MOST_NUMBERS" = some (.int 40 t)
  c_MOST_SUM : ∃ t, mg "MOST_SUM" = some (.int 1000000000 t)
  c_WALK : ∃ t, mg "WALK" = some (.str "walk" t)
  M : Errs P K mg cs
  d_is_int : ∃ fd, FunD K "is_int" "is_int" (defArgs (top 5)) (defBody (top 5)) (defScope (top 5)) [] [] (He.ga K "is_int") fd
  g_is_int : mg "is_int" = some (.ref (He.ga K "is_int"))
  d_is_told : ∃ fd, FunD K "is_told" "is_told" (defArgs (top 6)) (defBody (top 6)) (defScope (top 6)) [] [] (He.ga K "is_told") fd
  g_is_told : mg "is_told" = some (.ref (He.ga K "is_told"))
  d_is_series : ∃ fd, FunD K "is_series" "is_series" (defArgs (top 13)) (defBody (top 13)) (defScope (top 13)) [] [] (He.ga K "is_series") fd
  g_is_series : mg "is_series" = some (.ref (He.ga K "is_series"))
  d_look_at_series : ∃ fd, FunD K "look_at_series" "look_at_series" (defArgs (top 14)) (defBody (top 14)) (defScope (top 14)) [] [] (He.ga K "look_at_series") fd
  g_look_at_series : mg "look_at_series" = some (.ref (He.ga K "look_at_series"))
  d_told_next : ∃ fd, FunD K "told_next" "told_next" (defArgs (top 15)) (defBody (top 15)) (defScope (top 15)) [] [] (He.ga K "told_next") fd
  g_told_next : mg "told_next" = some (.ref (He.ga K "told_next"))
  d_is_walk : ∃ fd, FunD K "is_walk" "is_walk" (defArgs (top 16)) (defBody (top 16)) (defScope (top 16)) [] [] (He.ga K "is_walk") fd
  g_is_walk : mg "is_walk" = some (.ref (He.ga K "is_walk"))
  d_told_cost : ∃ fd, FunD K "told_cost" "told_cost" (defArgs (top 17)) (defBody (top 17)) (defScope (top 17)) [] [] (He.ga K "told_cost") fd
  g_told_cost : mg "told_cost" = some (.ref (He.ga K "told_cost"))
  d_cost_of_walk : ∃ fd, FunD K "cost_of_walk" "cost_of_walk" (defArgs (top 18)) (defBody (top 18)) (defScope (top 18)) [] [] (He.ga K "cost_of_walk") fd
  g_cost_of_walk : mg "cost_of_walk" = some (.ref (He.ga K "cost_of_walk"))
  d_told_labels : ∃ fd, FunD K "told_labels" "told_labels" (defArgs (top 19)) (defBody (top 19)) (defScope (top 19)) [] [] (He.ga K "told_labels") fd
  g_told_labels : mg "told_labels" = some (.ref (He.ga K "told_labels"))
  d_is_in : ∃ fd, FunD K "is_in" "is_in" (defArgs (top 20)) (defBody (top 20)) (defScope (top 20)) [] [] (He.ga K "is_in") fd
  g_is_in : mg "is_in" = some (.ref (He.ga K "is_in"))
  d_told_walk : ∃ fd, FunD K "told_walk" "told_walk" (defArgs (top 21)) (defBody (top 21)) (defScope (top 21)) [] [] (He.ga K "told_walk") fd
  g_told_walk : mg "told_walk" = some (.ref (He.ga K "told_walk"))
  d_least_walk : ∃ fd, FunD K "least_walk" "least_walk" (defArgs (top 22)) (defBody (top 22)) (defScope (top 22)) [] [] (He.ga K "least_walk") fd
  g_least_walk : mg "least_walk" = some (.ref (He.ga K "least_walk"))
  d_shows_least_walk : ∃ fd, FunD K "shows_least_walk" "shows_least_walk" (defArgs (top 23)) (defBody (top 23)) (defScope (top 23)) [] [] (He.ga K "shows_least_walk") fd
  g_shows_least_walk : mg "shows_least_walk" = some (.ref (He.ga K "shows_least_walk"))
  d_least_walk_in_band : ∃ fd, FunD K "least_walk_in_band" "least_walk_in_band" (defArgs (top 24)) (defBody (top 24)) (defScope (top 24)) [] [] (He.ga K "least_walk_in_band") fd
  g_least_walk_in_band : mg "least_walk_in_band" = some (.ref (He.ga K "least_walk_in_band"))
  d_how_many_walks : ∃ fd, FunD K "how_many_walks" "how_many_walks" (defArgs (top 25)) (defBody (top 25)) (defScope (top 25)) [] [] (He.ga K "how_many_walks") fd
  g_how_many_walks : mg "how_many_walks" = some (.ref (He.ga K "how_many_walks"))
  d_how_many_least : ∃ fd, FunD K "how_many_least" "how_many_least" (defArgs (top 26)) (defBody (top 26)) (defScope (top 26)) [] [] (He.ga K "how_many_least") fd
  g_how_many_least : mg "how_many_least" = some (.ref (He.ga K "how_many_least"))
  d_bound_of : ∃ fd, FunD K "bound_of" "bound_of" (defArgs (top 27)) (defBody (top 27)) (defScope (top 27)) [] [] (He.ga K "bound_of") fd
  g_bound_of : mg "bound_of" = some (.ref (He.ga K "bound_of"))
  d__law_pot : ∃ fd, FunD K "_law_pot" "_law_pot" (defArgs (top 29)) (defBody (top 29)) (defScope (top 29)) [] [] (He.ga K "_law_pot") fd
  g__law_pot : mg "_law_pot" = some (.ref (He.ga K "_law_pot"))
  d__law_take : ∃ fd, FunD K "_law_take" "_law_take" (defArgs (top 30)) (defBody (top 30)) (defScope (top 30)) [] [] (He.ga K "_law_take") fd
  g__law_take : mg "_law_take" = some (.ref (He.ga K "_law_take"))
  d__law_of : ∃ fd, FunD K "_law_of" "_law_of" (defArgs (top 31)) (defBody (top 31)) (defScope (top 31)) [] [] (He.ga K "_law_of") fd
  g__law_of : mg "_law_of" = some (.ref (He.ga K "_law_of"))
  d__law_cells : ∃ fd, FunD K "_law_cells" "_law_cells" (defArgs (top 32)) (defBody (top 32)) (defScope (top 32)) [] [] (He.ga K "_law_cells") fd
  g__law_cells : mg "_law_cells" = some (.ref (He.ga K "_law_cells"))
  d__law_heard : ∃ fd, FunD K "_law_heard" "_law_heard" (defArgs (top 33)) (defBody (top 33)) (defScope (top 33)) [] [] (He.ga K "_law_heard") fd
  g__law_heard : mg "_law_heard" = some (.ref (He.ga K "_law_heard"))
  d__law_odd : ∃ fd, FunD K "_law_odd" "_law_odd" (defArgs (top 34)) (defBody (top 34)) (defScope (top 34)) [] [] (He.ga K "_law_odd") fd
  g__law_odd : mg "_law_odd" = some (.ref (He.ga K "_law_odd"))
  d__law_is_int : ∃ fd, FunD K "_law_is_int" "_law_is_int" (defArgs (top 35)) (defBody (top 35)) (defScope (top 35)) [] [] (He.ga K "_law_is_int") fd
  g__law_is_int : mg "_law_is_int" = some (.ref (He.ga K "_law_is_int"))
  d__law_bent : ∃ fd, FunD K "_law_bent" "_law_bent" (defArgs (top 36)) (defBody (top 36)) (defScope (top 36)) [] [] (He.ga K "_law_bent") fd
  g__law_bent : mg "_law_bent" = some (.ref (He.ga K "_law_bent"))
  d__law_is_bool : ∃ fd, FunD K "_law_is_bool" "_law_is_bool" (defArgs (top 37)) (defBody (top 37)) (defScope (top 37)) [] [] (He.ga K "_law_is_bool") fd
  g__law_is_bool : mg "_law_is_bool" = some (.ref (He.ga K "_law_is_bool"))
  d__law_series : ∃ fd, FunD K "_law_series" "_law_series" (defArgs (top 38)) (defBody (top 38)) (defScope (top 38)) [] [] (He.ga K "_law_series") fd
  g__law_series : mg "_law_series" = some (.ref (He.ga K "_law_series"))
  d__law_walks : ∃ fd, FunD K "_law_walks" "_law_walks" (defArgs (top 39)) (defBody (top 39)) (defScope (top 39)) [] [] (He.ga K "_law_walks") fd
  g__law_walks : mg "_law_walks" = some (.ref (He.ga K "_law_walks"))
  d__law_walk_cost : ∃ fd, FunD K "_law_walk_cost" "_law_walk_cost" (defArgs (top 40)) (defBody (top 40)) (defScope (top 40)) [] [] (He.ga K "_law_walk_cost") fd
  g__law_walk_cost : mg "_law_walk_cost" = some (.ref (He.ga K "_law_walk_cost"))
  d__law_is_due : ∃ fd, FunD K "_law_is_due" "_law_is_due" (defArgs (top 41)) (defBody (top 41)) (defScope (top 41)) [] [] (He.ga K "_law_is_due") fd
  g__law_is_due : mg "_law_is_due" = some (.ref (He.ga K "_law_is_due"))
  d__law_far : ∃ fd, FunD K "_law_far" "_law_far" (defArgs (top 42)) (defBody (top 42)) (defScope (top 42)) [] [] (He.ga K "_law_far") fd
  g__law_far : mg "_law_far" = some (.ref (He.ga K "_law_far"))
  d__law_is_series : ∃ fd, FunD K "_law_is_series" "_law_is_series" (defArgs (top 43)) (defBody (top 43)) (defScope (top 43)) [] [] (He.ga K "_law_is_series") fd
  g__law_is_series : mg "_law_is_series" = some (.ref (He.ga K "_law_is_series"))
  l__law_are_refused : FunL K mg base T "_law_are_refused" (top 44)
  g__law_are_refused : mg "_law_are_refused" = some (.ref (He.ga K "_law_are_refused"))
  d__law_are_long_right : ∃ fd, FunD K "_law_are_long_right" "_law_are_long_right" (defArgs (top 45)) (defBody (top 45)) (defScope (top 45)) [] [] (He.ga K "_law_are_long_right") fd
  g__law_are_long_right : mg "_law_are_long_right" = some (.ref (He.ga K "_law_are_long_right"))
  d__law_right : ∃ fd, FunD K "_law_right" "_law_right" (defArgs (top 46)) (defBody (top 46)) (defScope (top 46)) [] [] (He.ga K "_law_right") fd
  g__law_right : mg "_law_right" = some (.ref (He.ga K "_law_right"))
  d_law : ∃ fd, FunD K "law" "law" (defArgs (top 47)) (defBody (top 47)) (defScope (top 47)) [] [] (He.ga K "law") fd
  g_law : mg "law" = some (.ref (He.ga K "law"))
noncomputable section
variable {P : Program} {w : World} {K : PySem.W.Frag} {mg : Str → Option Value} {base : Heap} {T : List (Addr × Str)}
theorem ex_BadInt (V : Nv P w K mg base T) : ErrC P K mg "BadInt" (V.M.c "BadInt" (by decide)).choose (V.M.c "BadInt" (by decide)).choose_spec.choose (V.M.c "BadInt" (by decide)).choose_spec.choose_spec.choose (V.M.c "BadInt" (by decide)).choose_spec.choose_spec.choose_spec.choose := (V.M.c "BadInt" (by decide)).choose_spec.choose_spec.choose_spec.choose_spec
theorem ex_BadTold (V : Nv P w K mg base T) : ErrC P K mg "BadTold" (V.M.c "BadTold" (by decide)).choose (V.M.c "BadTold" (by decide)).choose_spec.choose (V.M.c "BadTold" (by decide)).choose_spec.choose_spec.choose (V.M.c "BadTold" (by decide)).choose_spec.choose_spec.choose_spec.choose := (V.M.c "BadTold" (by decide)).choose_spec.choose_spec.choose_spec.choose_spec
theorem sc_hear : FnScope heardN ["call"] (defScope (top 33)) := ⟨rfl, rfl, rfl, by decide +kernel, rfl, by decide +kernel, by decide +kernel⟩
theorem bi_hear : BindOk "_law_heard" (top 33) ["call"] := fun _ _ _ _ _ _ us hl => match us, hl with | [_], _ => rfl
theorem hear_ok (gl : mg "LayingError" = some (.ref (He.ga K "LayingError"))) : HearOk P w K mg base "_law_heard" (top 33) := by
  intro cd A outer s H E act hh hact
  refine pss_cons (ps_asg (pe_tup (pa_cons pe_non (pa_cons pe_non pa_nil))) (pg_tup rfl (pgs_cons (pg_name sc_hear.nd rfl (.inl rfl)) (pgs_cons (pg_name sc_hear.nd rfl (.inl rfl)) pgs_nil)))) (pss_cons ?_ (pss_one (ps_ret (pe_tup (pa_cons (pe_var rfl (.inl rfl)) (pa_cons (pe_var rfl (.inl rfl)) pa_nil))))))
  exact try_kept (tb := fun W D σ H => tAsg (act W) (gName 2) D σ H) rfl rfl rfl sc_hear.nd rfl rfl ⟨rfl, rfl, .inl gl⟩ (takes_of rfl rfl rfl rfl) (fun W pn xe tk po => pss_one (ps_asg (hact W pn xe _ _ tk) (pg_name sc_hear.nd rfl (.inl rfl)))) (fun a oe cls d pn zc hf => pss_one (ps_asg (pe_var rfl (.inl rfl)) (pg_name sc_hear.nd rfl (.inl rfl))))
theorem hears (V : Nv P w K mg base T) : Hears P w K mg base "_law_heard" (top 33) := ⟨V.d__law_heard, V.g__law_heard, sc_hear, .inl rfl, bi_hear, hear_ok V.M.gl⟩
end
end K71
set_option Elab.async false
set_option linter.all false
set_option maxRecDepth 100000
set_option maxHeartbeats 0
namespace K71
open PySem PySem.Spec PyProof.Rows L2 Dn
noncomputable section
variable {P : Program} {w : World} {K : PySem.W.Frag} {mg : Str → Option Value} {base : Heap} {T : List (Addr × Str)}
def fs_is_int : FS := (sRet (fAndV (f1 (dIsi .int) (fVar 0)) (fAndV (fNotV (f1 (dIsi .bl) (fVar 0))) (fChain dLe dLe (fVar 1) (fVar 0) (fVar 2)))))
def φ_is_int : FF := bodyF 3 fs_is_int
theorem sc_is_int : FnScope ["value", "low", "high"] ["value", "low", "high"] (defScope (top 5)) := ⟨rfl, rfl, rfl, by decide +kernel, rfl, by decide +kernel, by decide +kernel⟩
theorem bi_is_int : BindOk "is_int" (top 5) ["value", "low", "high"] := fun _ _ _ _ _ _ us hl => match us, hl with | [_, _, _], _ => rfl
theorem ok_is_int (V : Nv P w K mg base T) : Fn1 P w K mg base T 1 "is_int" (top 5) ["value", "low", "high"] φ_is_int :=
  Fn1.of V.d_is_int V.g_is_int sc_is_int bi_is_int fun cdv A outer s H E G => (ss_one (s_ret (d_and (d_isi (b := .int) (by decide) (v_ 0) rfl V.b_isinstance rfl V.b_int bt_int) (d_and (d_not (d_isi (b := .bl) (by decide) (v_ 0) rfl V.b_isinstance rfl V.b_bool bt_bool)) (d_one (d_chain o_le o_le (v_ 1) (v_ 0) (v_ 2)))))))

def fs_is_told : FS := (sRet (fAndV (f1 (dIsi .tup) (fVar 0)) (fAndV (f2 dIn (fCl dLen (fCons (fVar 0) fNil)) (fVar 1)) (f1 (dIsi .str) (f2 dIx (fVar 0) (fC (.int 0)))))))
def φ_is_told : FF := bodyF 2 fs_is_told
theorem sc_is_told : FnScope ["value", "sizes"] ["value", "sizes"] (defScope (top 6)) := ⟨rfl, rfl, rfl, by decide +kernel, rfl, by decide +kernel, by decide +kernel⟩
theorem bi_is_told : BindOk "is_told" (top 6) ["value", "sizes"] := fun _ _ _ _ _ _ us hl => match us, hl with | [_, _], _ => rfl
theorem ok_is_told (V : Nv P w K mg base T) : Fn1 P w K mg base T 1 "is_told" (top 6) ["value", "sizes"] φ_is_told :=
  Fn1.of V.d_is_told V.g_is_told sc_is_told bi_is_told fun cdv A outer s H E G => (ss_one (s_ret (d_and (d_isi (b := .tup) (by decide) (v_ 0) rfl V.b_isinstance rfl V.b_tuple bt_tuple) (d_and (d_cmp (o_in (by exact G.hu)) (d_callB c_len rfl V.b_len bt_len (d_cons (v_ 0) d_nil)) (v_ 1)) (d_one (d_isi (b := .str) (by decide) (d_ix (by exact G.hu) (v_ 0) d_int) rfl V.b_isinstance rfl V.b_str bt_str))))))

def fs_is_series : FS := (sSeq (sIf (fOr (fNot (fTest (f1 (dIsi .tup) (fVar 0)))) (fNot (fTest (fChain dLe dLe (fC (.int 1)) (fCl dLen (fCons (fVar 0) fNil)) (fC (.int 40)))))) (sRet (fC (.bl false))) sNil) (sRet (fCl dAll (fCons (fLc (fIt (fVar 0)) (gN 1) fYes (fCa 3 φ_is_int (fCons (fVar 1) (fCons (f1 dNeg (fC (.int 1000000))) (fCons (fC (.int 1000000)) fNil)))) [1]) fNil))))
def φ_is_series : FF := bodyF 2 fs_is_series
theorem sc_is_series : FnScope ["value", "one"] ["value"] (defScope (top 13)) := ⟨rfl, rfl, rfl, by decide +kernel, rfl, by decide +kernel, by decide +kernel⟩
theorem bi_is_series : BindOk "is_series" (top 13) ["value"] := fun _ _ _ _ _ _ us hl => match us, hl with | [_], _ => rfl
theorem ok_is_series (V : Nv P w K mg base T) : Fn1 P w K mg base T 2 "is_series" (top 13) ["value"] φ_is_series :=
  Fn1.of V.d_is_series V.g_is_series sc_is_series bi_is_series fun cdv A outer s H E G => (ss_cons (s_if (L2.PW.pt (w_or (d_tnot (d_tval (d_isi (b := .tup) (by decide) (v_ 0) rfl V.b_isinstance rfl V.b_tuple bt_tuple))) (w_or1 (d_tnot (d_tchain o_le o_le d_int (d_callB c_len rfl V.b_len bt_len (d_cons (v_ 0) d_nil)) (gi_ V.c_MOST_NUMBERS)))))) (ss_one (s_ret d_bl)) ss_nil) (ss_one (s_ret (d_callB (c_all rfl) rfl V.b_all bt_all (d_cons (d_lc (own := [("one", 1)]) rfl (by exact G.nd) (i_any (v_ 0)) (blkOk_by rfl) (fun s1 H1 C1 cl1 fp1 => (n_ (by exact G.nd) 1)) (fun s1 H1 C1 cl1 fp1 => ts_none) (fun s1 H1 C1 cl1 fp1 => (ca_ (Good.blk G s1 H1 _ _ fp1) ((ok_is_int V).up) (d_cons (v_ 1) (d_cons (d_neg (gi_ V.c_MOST_NUMBER)) (d_cons (gi_ V.c_MOST_NUMBER) d_nil))))) (by decide)) d_nil)))))

def fs_look_at_series : FS := (sFor (fIt (fTup (fCons (fVar 0) (fCons (fVar 1) fNil)))) (gN 2) (sIf (fNot (fTest (fCa 1 φ_is_series (fCons (fVar 2) fNil)))) (sRaise "BadTold" (fVar 2)) sNil))
def φ_look_at_series : FF := bodyF 3 fs_look_at_series
theorem sc_look_at_series : FnScope ["one", "other", "value"] ["one", "other"] (defScope (top 14)) := ⟨rfl, rfl, rfl, by decide +kernel, rfl, by decide +kernel, by decide +kernel⟩
theorem bi_look_at_series : BindOk "look_at_series" (top 14) ["one", "other"] := fun _ _ _ _ _ _ us hl => match us, hl with | [_, _], _ => rfl
theorem ok_look_at_series (V : Nv P w K mg base T) : Fn1 P w K mg base T 3 "look_at_series" (top 14) ["one", "other"] φ_look_at_series :=
  Fn1.of V.d_look_at_series V.g_look_at_series sc_look_at_series bi_look_at_series fun cdv A outer s H E G => (ss_one (s_for owns_bx rfl (i_any (d_tup (d_cons (v_ 0) (d_cons (v_ 1) d_nil)))) (n_ (by exact G.nd) 2) (ss_one (s_if (d_tnot (d_tval (ca_ G ((ok_is_series V).up) (d_cons (v_ 2) d_nil)))) (ss_one (s_raise G (ex_BadTold V) (v_ 2))) ss_nil))))

def fs_told_next : FS := (sSeq (sSet 3 (fLst (fCons (fTup (fCons (f2 dAdd (f2 dIx (fVar 2) (fC (.int 0))) (fC (.int 1))) (fCons (f2 dAdd (f2 dIx (fVar 2) (fC (.int 1))) (fC (.int 1))) fNil))) (fCons (fTup (fCons (f2 dIx (fVar 2) (fC (.int 0))) (fCons (f2 dAdd (f2 dIx (fVar 2) (fC (.int 1))) (fC (.int 1))) fNil))) (fCons (fTup (fCons (f2 dAdd (f2 dIx (fVar 2) (fC (.int 0))) (fC (.int 1))) (fCons (f2 dIx (fVar 2) (fC (.int 1))) fNil))) fNil))))) (sRet (fLc (fIt (fVar 3)) (gN 4) (fAnd (fTest (f2 dLt (f2 dIx (fVar 4) (fC (.int 0))) (fCl dLen (fCons (fVar 0) fNil)))) (fTest (f2 dLt (f2 dIx (fVar 4) (fC (.int 1))) (fCl dLen (fCons (fVar 1) fNil))))) (fVar 4) [4])))
def φ_told_next : FF := bodyF 5 fs_told_next
theorem sc_told_next : FnScope ["one", "other", "place", "some", "later"] ["one", "other", "place"] (defScope (top 15)) := ⟨rfl, rfl, rfl, by decide +kernel, rfl, by decide +kernel, by decide +kernel⟩
theorem bi_told_next : BindOk "told_next" (top 15) ["one", "other", "place"] := fun _ _ _ _ _ _ us hl => match us, hl with | [_, _, _], _ => rfl
theorem ok_told_next (V : Nv P w K mg base T) : Fn1 P w K mg base T 1 "told_next" (top 15) ["one", "other", "place"] φ_told_next :=
  Fn1.of V.d_told_next V.g_told_next sc_told_next bi_told_next fun cdv A outer s H E G => (ss_cons (st_ G 3 (d_lst (d_cons (d_tup (d_cons (d_bin o_add (d_ix (by exact G.hu) (v_ 2) d_int) d_int) (d_cons (d_bin o_add (d_ix (by exact G.hu) (v_ 2) d_int) d_int) d_nil))) (d_cons (d_tup (d_cons (d_ix (by exact G.hu) (v_ 2) d_int) (d_cons (d_bin o_add (d_ix (by exact G.hu) (v_ 2) d_int) d_int) d_nil))) (d_cons (d_tup (d_cons (d_bin o_add (d_ix (by exact G.hu) (v_ 2) d_int) d_int) (d_cons (d_ix (by exact G.hu) (v_ 2) d_int) d_nil))) d_nil))))) (ss_one (s_ret (d_lc (own := [("later", 4)]) rfl (by exact G.nd) (i_any (v_ 3)) (blkOk_by rfl) (fun s1 H1 C1 cl1 fp1 => (n_ (by exact G.nd) 4)) (fun s1 H1 C1 cl1 fp1 => (ts_one (L2.PW.pt (w_and (d_tcmp o_lt (d_ix (by exact G.hu) (v_ 4) d_int) (d_callB c_len rfl V.b_len bt_len (d_cons (v_ 0) d_nil))) (w_and1 (d_tcmp o_lt (d_ix (by exact G.hu) (v_ 4) d_int) (d_callB c_len rfl V.b_len bt_len (d_cons (v_ 1) d_nil)))))))) (fun s1 H1 C1 cl1 fp1 => (v_ 4)) (by decide)))))

def is_walk_b0 : FS := (sSeq (sIf (fOr (fNot (fTest (f1 (dIsi .tup) (fVar 3)))) (fTest (f2 dNe (fCl dLen (fCons (fVar 3) fNil)) (fC (.int 2))))) (sRet (fC (.bl false))) sNil) (sIf (fOr (fNot (fTest (fCa 3 φ_is_int (fCons (f2 dIx (fVar 3) (fC (.int 0))) (fCons (fC (.int 0)) (fCons (f2 dSub (fCl dLen (fCons (fVar 0) fNil)) (fC (.int 1))) fNil)))))) (fNot (fTest (fCa 3 φ_is_int (fCons (f2 dIx (fVar 3) (fC (.int 1))) (fCons (fC (.int 0)) (fCons (f2 dSub (fCl dLen (fCons (fVar 1) fNil)) (fC (.int 1))) fNil))))))) (sRet (fC (.bl false))) sNil))
def is_walk_l0 : FS := (sFor (fIt (fVar 2)) (gN 3) is_walk_b0)
def is_walk_e0 : FE := (f2 dIn (fVar 4) (fCa 3 φ_told_next (fCons (fVar 0) (fCons (fVar 1) (fCons (fVar 3) fNil)))))
def is_walk_c0 : FE := (fLc (fZip (fCons (fVar 2) (fCons (fSl (fVar 2) (fPart (fC (.int 1))) fNoPart) fNil))) (gT 2 (gsC (gN 3) (gsC (gN 4) gsN))) fYes is_walk_e0 [3, 4])
def fs_is_walk : FS := (sSeq (sExp (fCa 2 φ_look_at_series (fCons (fVar 0) (fCons (fVar 1) fNil)))) (sSeq (sIf (fOr (fNot (fTest (f1 (dIsi .tup) (fVar 2)))) (fOr (fTest (f2 dEq (fCl dLen (fCons (fVar 2) fNil)) (fC (.int 0)))) (fTest (f2 dGt (fCl dLen (fCons (fVar 2) fNil)) (f2 dMul (fC (.int 2)) (fC (.int 40))))))) (sRet (fC (.bl false))) sNil) (sSeq is_walk_l0 (sSeq (sIf (fOr (fTest (f2 dNe (f2 dIx (fVar 2) (fC (.int 0))) (fTup (fCons (fC (.int 0)) (fCons (fC (.int 0)) fNil))))) (fTest (f2 dNe (f2 dIx (fVar 2) (f1 dNeg (fC (.int 1)))) (fTup (fCons (f2 dSub (fCl dLen (fCons (fVar 0) fNil)) (fC (.int 1))) (fCons (f2 dSub (fCl dLen (fCons (fVar 1) fNil)) (fC (.int 1))) fNil)))))) (sRet (fC (.bl false))) sNil) (sRet (fCl dAll (fCons is_walk_c0 fNil)))))))
def φ_is_walk : FF := bodyF 5 fs_is_walk
theorem sc_is_walk : FnScope ["one", "other", "value", "place", "later"] ["one", "other", "value"] (defScope (top 16)) := ⟨rfl, rfl, rfl, by decide +kernel, rfl, by decide +kernel, by decide +kernel⟩
theorem bi_is_walk : BindOk "is_walk" (top 16) ["one", "other", "value"] := fun _ _ _ _ _ _ us hl => match us, hl with | [_, _, _], _ => rfl
theorem ok_is_walk (V : Nv P w K mg base T) : Fn1 P w K mg base T 4 "is_walk" (top 16) ["one", "other", "value"] φ_is_walk :=
  Fn1.of V.d_is_walk V.g_is_walk sc_is_walk bi_is_walk fun cdv A outer s H E G => (ss_cons (s_exp (ca_ G ((ok_look_at_series V).up) (d_cons (v_ 0) (d_cons (v_ 1) d_nil)))) (ss_cons (s_if (L2.PW.pt (w_or (d_tnot (d_tval (d_isi (b := .tup) (by decide) (v_ 2) rfl V.b_isinstance rfl V.b_tuple bt_tuple))) (w_or (d_tcmp (o_eq (by exact G.hu65)) (d_callB c_len rfl V.b_len bt_len (d_cons (v_ 2) d_nil)) d_int) (w_or1 (d_tcmp o_gt (d_callB c_len rfl V.b_len bt_len (d_cons (v_ 2) d_nil)) (d_bin o_mul d_int (gi_ V.c_MOST_NUMBERS))))))) (ss_one (s_ret d_bl)) ss_nil) (ss_cons (s_for owns_bx rfl (i_any (v_ 2)) (n_ (by exact G.nd) 3) (ss_cons (s_if (L2.PW.pt (w_or (d_tnot (d_tval (d_isi (b := .tup) (by decide) (v_ 3) rfl V.b_isinstance rfl V.b_tuple bt_tuple))) (w_or1 (d_tcmp (o_ne (by exact G.hu65)) (d_callB c_len rfl V.b_len bt_len (d_cons (v_ 3) d_nil)) d_int)))) (ss_one (s_ret d_bl)) ss_nil) (ss_one (s_if (L2.PW.pt (w_or (d_tnot (d_tval (ca_ G ((ok_is_int V).up) (d_cons (d_ix (by exact G.hu) (v_ 3) d_int) (d_cons d_int (d_cons (d_bin o_sub (d_callB c_len rfl V.b_len bt_len (d_cons (v_ 0) d_nil)) d_int) d_nil)))))) (w_or1 (d_tnot (d_tval (ca_ G ((ok_is_int V).up) (d_cons (d_ix (by exact G.hu) (v_ 3) d_int) (d_cons d_int (d_cons (d_bin o_sub (d_callB c_len rfl V.b_len bt_len (d_cons (v_ 1) d_nil)) d_int) d_nil))))))))) (ss_one (s_ret d_bl)) ss_nil)))) (ss_cons (s_if (L2.PW.pt (w_or (d_tcmp (o_ne (by exact G.hu65)) (d_ix (by exact G.hu) (v_ 2) d_int) (d_tup (d_cons d_int (d_cons d_int d_nil)))) (w_or1 (d_tcmp (o_ne (by exact G.hu65)) (d_ix (by exact G.hu) (v_ 2) (d_neg d_int)) (d_tup (d_cons (d_bin o_sub (d_callB c_len rfl V.b_len bt_len (d_cons (v_ 0) d_nil)) d_int) (d_cons (d_bin o_sub (d_callB c_len rfl V.b_len bt_len (d_cons (v_ 1) d_nil)) d_int) d_nil))))))) (ss_one (s_ret d_bl)) ss_nil) (ss_one (s_ret (d_callB (c_all rfl) rfl V.b_all bt_all (d_cons (d_lc (own := [("place", 3), ("later", 4)]) rfl (by exact G.nd) (i_zip rfl V.b_zip (d_cons (v_ 2) (d_cons (d_slice (v_ 2) (p_some d_int) p_none) d_nil))) (blkOk_by rfl) (fun s1 H1 C1 cl1 fp1 => (t_tup rfl (ts_cons (n_ (by exact G.nd) 3) (ts_cons (n_ (by exact G.nd) 4) ts_nil)))) (fun s1 H1 C1 cl1 fp1 => ts_none) (fun s1 H1 C1 cl1 fp1 => (d_cmp (o_in (by exact G.hu)) (v_ 4) (ca_ (Good.blk G s1 H1 _ _ fp1) ((ok_told_next V).up) (d_cons (v_ 0) (d_cons (v_ 1) (d_cons (v_ 3) d_nil)))))) (by decide)) d_nil))))))))

def fs_told_cost : FS := (sRet (fCl dSum (fCons (fLc (fIt (fVar 2)) (gT 2 (gsC (gN 3) (gsC (gN 4) gsN))) fYes (fCl dAbs (fCons (f2 dSub (f2 dIx (fVar 0) (fVar 3)) (f2 dIx (fVar 1) (fVar 4))) fNil)) [3, 4]) fNil)))
def φ_told_cost : FF := bodyF 5 fs_told_cost
theorem sc_told_cost : FnScope ["one", "other", "walk", "mine", "its"] ["one", "other", "walk"] (defScope (top 17)) := ⟨rfl, rfl, rfl, by decide +kernel, rfl, by decide +kernel, by decide +kernel⟩
theorem bi_told_cost : BindOk "told_cost" (top 17) ["one", "other", "walk"] := fun _ _ _ _ _ _ us hl => match us, hl with | [_, _, _], _ => rfl
theorem ok_told_cost (V : Nv P w K mg base T) : Fn1 P w K mg base T 1 "told_cost" (top 17) ["one", "other", "walk"] φ_told_cost :=
  Fn1.of V.d_told_cost V.g_told_cost sc_told_cost bi_told_cost fun cdv A outer s H E G => (ss_one (s_ret (d_callB (c_sum rfl) rfl V.b_sum bt_sum (d_cons (d_lc (own := [("mine", 3), ("its", 4)]) rfl (by exact G.nd) (i_any (v_ 2)) (blkOk_by rfl) (fun s1 H1 C1 cl1 fp1 => (t_tup rfl (ts_cons (n_ (by exact G.nd) 3) (ts_cons (n_ (by exact G.nd) 4) ts_nil)))) (fun s1 H1 C1 cl1 fp1 => ts_none) (fun s1 H1 C1 cl1 fp1 => (d_callB c_abs rfl V.b_abs bt_abs (d_cons (d_bin o_sub (d_ix (by exact G.hu) (v_ 0) (v_ 3)) (d_ix (by exact G.hu) (v_ 1) (v_ 4))) d_nil))) (by decide)) d_nil))))

def fs_cost_of_walk : FS := (sSeq (sIf (fNot (fTest (fCa 3 φ_is_walk (fCons (fVar 0) (fCons (fVar 1) (fCons (fVar 2) fNil)))))) (sRaise "BadTold" (fVar 2)) sNil) (sRet (fCa 3 φ_told_cost (fCons (fVar 0) (fCons (fVar 1) (fCons (fVar 2) fNil))))))
def φ_cost_of_walk : FF := bodyF 3 fs_cost_of_walk
theorem sc_cost_of_walk : FnScope ["one", "other", "walk"] ["one", "other", "walk"] (defScope (top 18)) := ⟨rfl, rfl, rfl, by decide +kernel, rfl, by decide +kernel, by decide +kernel⟩
theorem bi_cost_of_walk : BindOk "cost_of_walk" (top 18) ["one", "other", "walk"] := fun _ _ _ _ _ _ us hl => match us, hl with | [_, _, _], _ => rfl
theorem ok_cost_of_walk (V : Nv P w K mg base T) : Fn1 P w K mg base T 5 "cost_of_walk" (top 18) ["one", "other", "walk"] φ_cost_of_walk :=
  Fn1.of V.d_cost_of_walk V.g_cost_of_walk sc_cost_of_walk bi_cost_of_walk fun cdv A outer s H E G => (ss_cons (s_if (d_tnot (d_tval (ca_ G ((ok_is_walk V).up) (d_cons (v_ 0) (d_cons (v_ 1) (d_cons (v_ 2) d_nil)))))) (ss_one (s_raise G (ex_BadTold V) (v_ 2))) ss_nil) (ss_one (s_ret (ca_ G ((ok_told_cost V).up) (d_cons (v_ 0) (d_cons (v_ 1) (d_cons (v_ 2) d_nil)))))))

def fs_is_in : FS := (sSeq (sPar 5 6 (fCons (fCl dMin (fCons (fC (.int 0)) (fCons (f2 dSub (fCl dLen (fCons (fVar 0) fNil)) (fCl dLen (fCons (fVar 1) fNil))) fNil))) (fCons (fCl dMax (fCons (fC (.int 0)) (fCons (f2 dSub (fCl dLen (fCons (fVar 0) fNil)) (fCl dLen (fCons (fVar 1) fNil))) fNil))) fNil))) (sRet (fChain dLe dLe (f2 dSub (fVar 5) (fVar 2)) (f2 dSub (fVar 3) (fVar 4)) (f2 dAdd (fVar 6) (fVar 2)))))
def φ_is_in : FF := bodyF 7 fs_is_in
theorem sc_is_in : FnScope ["one", "other", "wide", "mine", "its", "low", "high"] ["one", "other", "wide", "mine", "its"] (defScope (top 20)) := ⟨rfl, rfl, rfl, by decide +kernel, rfl, by decide +kernel, by decide +kernel⟩
theorem bi_is_in : BindOk "is_in" (top 20) ["one", "other", "wide", "mine", "its"] := fun _ _ _ _ _ _ us hl => match us, hl with | [_, _, _, _, _], _ => rfl
theorem ok_is_in (V : Nv P w K mg base T) : Fn1 P w K mg base T 1 "is_in" (top 20) ["one", "other", "wide", "mine", "its"] φ_is_in :=
  Fn1.of V.d_is_in V.g_is_in sc_is_in bi_is_in fun cdv A outer s H E G => (ss_cons (s_par rfl G.nd rfl rfl (by decide) rfl rfl (d_cons (d_callB (c_min rfl) rfl V.b_min bt_min (d_cons d_int (d_cons (d_bin o_sub (d_callB c_len rfl V.b_len bt_len (d_cons (v_ 0) d_nil)) (d_callB c_len rfl V.b_len bt_len (d_cons (v_ 1) d_nil))) d_nil))) (d_cons (d_callB (c_max rfl) rfl V.b_max bt_max (d_cons d_int (d_cons (d_bin o_sub (d_callB c_len rfl V.b_len bt_len (d_cons (v_ 0) d_nil)) (d_callB c_len rfl V.b_len bt_len (d_cons (v_ 1) d_nil))) d_nil))) d_nil)) rfl) (ss_one (s_ret (d_chain o_le o_le (d_bin o_sub (v_ 5) (v_ 2)) (d_bin o_sub (v_ 3) (v_ 4)) (d_bin o_add (v_ 6) (v_ 2))))))

def fs_told_labels : FS := (sSeq (sSet 3 fDT) (sSeq (sFor (fRg itRg3 (fCons (f2 dSub (fCl dLen (fCons (fVar 0) fNil)) (fC (.int 1))) (fCons (f1 dNeg (fC (.int 1))) (fCons (f1 dNeg (fC (.int 1))) fNil)))) (gN 4) (sFor (fRg itRg3 (fCons (f2 dSub (fCl dLen (fCons (fVar 1) fNil)) (fC (.int 1))) (fCons (f1 dNeg (fC (.int 1))) (fCons (f1 dNeg (fC (.int 1))) fNil)))) (gN 5) (sIf (fOr (fTest (f2 dIsN (fVar 2) (fC .non))) (fTest (fCa 5 φ_is_in (fCons (fVar 0) (fCons (fVar 1) (fCons (fVar 2) (fCons (fVar 4) (fCons (fVar 5) fNil)))))))) (sSeq (sSet 6 (fLc (fIt (fCa 3 φ_told_next (fCons (fVar 0) (fCons (fVar 1) (fCons (fTup (fCons (fVar 4) (fCons (fVar 5) fNil))) fNil))))) (gN 7) (fTest (f2 dIn (fVar 7) (fVar 3))) (f2 dIx (fVar 3) (fVar 7)) [7])) (sAsg (f2 dAdd (fCl dAbs (fCons (f2 dSub (f2 dIx (fVar 0) (fVar 4)) (f2 dIx (fVar 1) (fVar 5))) fNil)) (fIf (fTest (f2 dNe (fVar 6) (fLst fNil))) (fCl dMin (fCons (fVar 6) fNil)) (fC (.int 0)))) (gSb (fVar 3) (fTup (fCons (fVar 4) (fCons (fVar 5) fNil)))))) sNil))) (sRet (fVar 3))))
def φ_told_labels : FF := bodyF 8 fs_told_labels
theorem sc_told_labels : FnScope ["one", "other", "wide", "labels", "mine", "its", "rests", "later"] ["one", "other", "wide"] (defScope (top 19)) := ⟨rfl, rfl, rfl, by decide +kernel, rfl, by decide +kernel, by decide +kernel⟩
theorem bi_told_labels : BindOk "told_labels" (top 19) ["one", "other", "wide"] := fun _ _ _ _ _ _ us hl => match us, hl with | [_, _, _], _ => rfl
theorem ok_told_labels (V : Nv P w K mg base T) : Fn1 P w K mg base T 2 "told_labels" (top 19) ["one", "other", "wide"] φ_told_labels :=
  Fn1.of V.d_told_labels V.g_told_labels sc_told_labels bi_told_labels fun cdv A outer s H E G => (ss_cons (st_ G 3 d_dictT) (ss_cons (s_for owns_bx rfl (i_range3 rfl V.b_range (d_cons (d_bin o_sub (d_callB c_len rfl V.b_len bt_len (d_cons (v_ 0) d_nil)) d_int) (d_cons (d_neg d_int) (d_cons (d_neg d_int) d_nil)))) (n_ (by exact G.nd) 4) (ss_one (s_for owns_bx rfl (i_range3 rfl V.b_range (d_cons (d_bin o_sub (d_callB c_len rfl V.b_len bt_len (d_cons (v_ 1) d_nil)) d_int) (d_cons (d_neg d_int) (d_cons (d_neg d_int) d_nil)))) (n_ (by exact G.nd) 5) (ss_one (s_if (L2.PW.pt (w_or (d_tcmp o_isN (v_ 2) d_non) (w_or1 (d_tval (ca_ G ((ok_is_in V).up) (d_cons (v_ 0) (d_cons (v_ 1) (d_cons (v_ 2) (d_cons (v_ 4) (d_cons (v_ 5) d_nil)))))))))) (ss_cons (s_setLc (i := 6) (own := [("later", 7)]) rfl (by exact G.nd) rfl rfl (sw_true rfl rfl rfl (by decide +kernel)) (i_any (ca_ G ((ok_told_next V).up) (d_cons (v_ 0) (d_cons (v_ 1) (d_cons (d_tup (d_cons (v_ 4) (d_cons (v_ 5) d_nil))) d_nil))))) (blkOk_by rfl) (fun s1 H1 C1 cl1 fp1 => (n_ (by exact G.nd) 7)) (fun s1 H1 C1 cl1 fp1 => (ts_one (d_tcmp (o_in (by exact G.hu)) (v_ 7) (v_ 3)))) (fun s1 H1 C1 cl1 fp1 => (d_ix (by exact G.hu) (v_ 3) (v_ 7))) (by decide)) (ss_one (s_asg (d_bin o_add (d_callB c_abs rfl V.b_abs bt_abs (d_cons (d_bin o_sub (d_ix (by exact G.hu) (v_ 0) (v_ 4)) (d_ix (by exact G.hu) (v_ 1) (v_ 5))) d_nil)) (d_if (d_tcmp (o_ne (by exact G.hu65)) (v_ 6) (d_lst d_nil)) (d_callB (c_min rfl) rfl V.b_min bt_min (d_cons (v_ 6) d_nil)) d_int)) (t_sub (by exact G.hu) (v_ 3) (d_tup (d_cons (v_ 4) (d_cons (v_ 5) d_nil))))))) ss_nil))))) (ss_one (s_ret (v_ 3)))))

def told_walk_t0 : FT := (fTest (f2 dIn (fVar 6) (fVar 2)))
def told_walk_e0 : FE := (fVar 6)
def told_walk_c0 : FE := (fLc (fIt (fCa 3 φ_told_next (fCons (fVar 0) (fCons (fVar 1) (fCons (fVar 3) fNil))))) (gN 6) told_walk_t0 told_walk_e0 [6])
def told_walk_e1 : FE := (f2 dIx (fVar 2) (fVar 6))
def told_walk_c1 : FE := (fLc (fIt (fVar 5)) (gN 6) fYes told_walk_e1 [6])
def told_walk_t1 : FT := (fTest (f2 dEq (f2 dIx (fVar 2) (fVar 6)) (fVar 7)))
def told_walk_e2 : FE := (fVar 6)
def told_walk_c2 : FE := (fLc (fIt (fVar 5)) (gN 6) told_walk_t1 told_walk_e2 [6])
def told_walk_w0 : FT := (fTest (f2 dNe (fVar 3) (fTup (fCons (f2 dSub (fCl dLen (fCons (fVar 0) fNil)) (fC (.int 1))) (fCons (f2 dSub (fCl dLen (fCons (fVar 1) fNil)) (fC (.int 1))) fNil)))))
def told_walk_b0 : FS := (sSeq (sSet 5 told_walk_c0) (sSeq (sSet 7 (fCl dMin (fCons told_walk_c1 fNil))) (sSeq (sSet 3 (f2 dIx told_walk_c2 (fC (.int 0)))) (sExp (fMt .lst mApp (fVar 4) (fCons (fVar 3) fNil))))))
def told_walk_l0 : FS := (sWh told_walk_w0 told_walk_b0)
def fs_told_walk : FS := (sSeq (sSet 3 (fTup (fCons (fC (.int 0)) (fCons (fC (.int 0)) fNil)))) (sSeq (sSet 4 (fLstM (fCons (fVar 3) fNil))) (sSeq told_walk_l0 (sRet (fCl dTuple (fCons (fVar 4) fNil))))))
def φ_told_walk : FF := bodyF 8 fs_told_walk
theorem sc_told_walk : FnScope ["one", "other", "labels", "place", "found", "some", "later", "least"] ["one", "other", "labels"] (defScope (top 21)) := ⟨rfl, rfl, rfl, by decide +kernel, rfl, by decide +kernel, by decide +kernel⟩
theorem bi_told_walk : BindOk "told_walk" (top 21) ["one", "other", "labels"] := fun _ _ _ _ _ _ us hl => match us, hl with | [_, _, _], _ => rfl
theorem ok_told_walk (V : Nv P w K mg base T) : Fn1 P w K mg base T 2 "told_walk" (top 21) ["one", "other", "labels"] φ_told_walk :=
  Fn1.of V.d_told_walk V.g_told_walk sc_told_walk bi_told_walk fun cdv A outer s H E G => (ss_cons (st_ G 3 (d_tup (d_cons d_int (d_cons d_int d_nil)))) (ss_cons (st_ G 4 (d_lstM (d_cons (v_ 3) d_nil))) (ss_cons (s_while owns_bx (d_tcmp (o_ne (by exact G.hu65)) (v_ 3) (d_tup (d_cons (d_bin o_sub (d_callB c_len rfl V.b_len bt_len (d_cons (v_ 0) d_nil)) d_int) (d_cons (d_bin o_sub (d_callB c_len rfl V.b_len bt_len (d_cons (v_ 1) d_nil)) d_int) d_nil)))) (ss_cons (s_setLc (i := 5) (own := [("later", 6)]) rfl (by exact G.nd) rfl rfl (sw_true rfl rfl rfl (by decide +kernel)) (i_any (ca_ G ((ok_told_next V).up) (d_cons (v_ 0) (d_cons (v_ 1) (d_cons (v_ 3) d_nil))))) (blkOk_by rfl) (fun s1 H1 C1 cl1 fp1 => (n_ (by exact G.nd) 6)) (fun s1 H1 C1 cl1 fp1 => (ts_one (d_tcmp (o_in (by exact G.hu)) (v_ 6) (v_ 2)))) (fun s1 H1 C1 cl1 fp1 => (v_ 6)) (by decide)) (ss_cons (st_ G 7 (d_callB (c_min rfl) rfl V.b_min bt_min (d_cons (d_lc (own := [("later", 6)]) rfl (by exact G.nd) (i_any (v_ 5)) (blkOk_by rfl) (fun s1 H1 C1 cl1 fp1 => (n_ (by exact G.nd) 6)) (fun s1 H1 C1 cl1 fp1 => ts_none) (fun s1 H1 C1 cl1 fp1 => (d_ix (by exact G.hu) (v_ 2) (v_ 6))) (by decide)) d_nil))) (ss_cons (st_ G 3 (d_ix (by exact G.hu) (d_lc (own := [("later", 6)]) rfl (by exact G.nd) (i_any (v_ 5)) (blkOk_by rfl) (fun s1 H1 C1 cl1 fp1 => (n_ (by exact G.nd) 6)) (fun s1 H1 C1 cl1 fp1 => (ts_one (d_tcmp (o_eq (by exact G.hu65)) (d_ix (by exact G.hu) (v_ 2) (v_ 6)) (v_ 7)))) (fun s1 H1 C1 cl1 fp1 => (v_ 6)) (by decide)) d_int)) (ss_one (s_exp (d_append (v_ 4) (d_cons (v_ 3) d_nil)))))))) (ss_one (s_ret (d_callTy c_tuple rfl V.b_tuple bt_tuple (d_cons (v_ 4) d_nil)))))))

def least_walk_e0 : FE := (f2 dIx (fVar 2) (fTup (fCons (fVar 5) (fCons (fVar 4) fNil))))
def least_walk_c0 : FE := (fLc (fRg itRg1 (fCons (fCl dLen (fCons (fVar 1) fNil)) fNil)) (gN 4) fYes least_walk_e0 [4])
def least_walk_e1 : FE := (fCl dTuple (fCons least_walk_c0 fNil))
def least_walk_c1 : FE := (fLc (fRg itRg1 (fCons (fCl dLen (fCons (fVar 0) fNil)) fNil)) (gN 5) fYes least_walk_e1 [5])
def fs_least_walk : FS := (sSeq (sExp (fCa 2 φ_look_at_series (fCons (fVar 0) (fCons (fVar 1) fNil)))) (sSeq (sSet 2 (fCa 3 φ_told_labels (fCons (fVar 0) (fCons (fVar 1) (fCons (fC .non) fNil))))) (sSeq (sSet 3 (fCl dTuple (fCons least_walk_c1 fNil))) (sRet (fTup (fCons (fC (.str "walk")) (fCons (f2 dIx (fVar 2) (fTup (fCons (fC (.int 0)) (fCons (fC (.int 0)) fNil)))) (fCons (fCa 3 φ_told_walk (fCons (fVar 0) (fCons (fVar 1) (fCons (fVar 2) fNil)))) (fCons (fVar 3) fNil)))))))))
def φ_least_walk : FF := bodyF 6 fs_least_walk
theorem sc_least_walk : FnScope ["one", "other", "labels", "rows", "its", "mine"] ["one", "other"] (defScope (top 22)) := ⟨rfl, rfl, rfl, by decide +kernel, rfl, by decide +kernel, by decide +kernel⟩
theorem bi_least_walk : BindOk "least_walk" (top 22) ["one", "other"] := fun _ _ _ _ _ _ us hl => match us, hl with | [_, _], _ => rfl
theorem ok_least_walk (V : Nv P w K mg base T) : Fn1 P w K mg base T 4 "least_walk" (top 22) ["one", "other"] φ_least_walk :=
  Fn1.of V.d_least_walk V.g_least_walk sc_least_walk bi_least_walk fun cdv A outer s H E G => (ss_cons (s_exp (ca_ G ((ok_look_at_series V).up) (d_cons (v_ 0) (d_cons (v_ 1) d_nil)))) (ss_cons (st_ G 2 (ca_ G ((ok_told_labels V).up) (d_cons (v_ 0) (d_cons (v_ 1) (d_cons d_non d_nil))))) (ss_cons (st_ G 3 (d_callTy c_tuple rfl V.b_tuple bt_tuple (d_cons (d_lc (own := [("mine", 5)]) rfl (by exact G.nd) (i_range1 rfl V.b_range (d_cons (d_callB c_len rfl V.b_len bt_len (d_cons (v_ 0) d_nil)) d_nil)) (blkOk_by rfl) (fun s1 H1 C1 cl1 fp1 => (n_ (by exact G.nd) 5)) (fun s1 H1 C1 cl1 fp1 => ts_none) (fun s1 H1 C1 cl1 fp1 => (d_callTy c_tuple rfl V.b_tuple bt_tuple (d_cons (d_lc (own := [("its", 4)]) rfl (by exact G.nd) (i_range1 rfl V.b_range (d_cons (d_callB c_len rfl V.b_len bt_len (d_cons (v_ 1) d_nil)) d_nil)) (blkOk_by rfl) (fun s2 H2 C2 cl2 fp2 => (n_ (by exact G.nd) 4)) (fun s2 H2 C2 cl2 fp2 => ts_none) (fun s2 H2 C2 cl2 fp2 => (d_ix (by exact G.hu) (v_ 2) (d_tup (d_cons (v_ 5) (d_cons (v_ 4) d_nil))))) (by decide)) d_nil))) (by decide)) d_nil))) (ss_one (s_ret (d_tup (d_cons (gs_ V.c_WALK) (d_cons (d_ix (by exact G.hu) (v_ 2) (d_tup (d_cons d_int (d_cons d_int d_nil)))) (d_cons (ca_ G ((ok_told_walk V).up) (d_cons (v_ 0) (d_cons (v_ 1) (d_cons (v_ 2) d_nil)))) (d_cons (v_ 3) d_nil))))))))))

end
end K71
set_option Elab.async false
set_option linter.all false
set_option maxRecDepth 100000
set_option maxHeartbeats 0
namespace K71
open PySem PySem.Spec PyProof.Rows L2 Dn
noncomputable section
variable {P : Program} {w : World} {K : PySem.W.Frag} {mg : Str → Option Value} {base : Heap} {T : List (Addr × Str)}
def shows_least_walk_s0 : FS := (sExp (fCa 2 φ_look_at_series (fCons (fVar 0) (fCons (fVar 1) fNil))))
def shows_least_walk_s1 : FS := (sIf (fOr (fNot (fTest (fCa 2 φ_is_told (fCons (fVar 2) (fCons (fTup (fCons (fC (.int 4)) fNil)) fNil))))) (fOr (fTest (f2 dNe (f2 dIx (fVar 2) (fC (.int 0))) (fC (.str "walk")))) (fNot (fTest (fCa 3 φ_is_walk (fCons (fVar 0) (fCons (fVar 1) (fCons (f2 dIx (fVar 2) (fC (.int 2))) fNil)))))))) (sRet (fC (.bl false))) sNil)
def shows_least_walk_s2 : FS := (sIf (fOr (fNot (fTest (fCa 3 φ_is_int (fCons (f2 dIx (fVar 2) (fC (.int 1))) (fCons (fC (.int 0)) (fCons (fC (.int 1000000000)) fNil)))))) (fTest (f2 dNe (fCa 3 φ_told_cost (fCons (fVar 0) (fCons (fVar 1) (fCons (f2 dIx (fVar 2) (fC (.int 2))) fNil)))) (f2 dIx (fVar 2) (fC (.int 1)))))) (sRet (fC (.bl false))) sNil)
def shows_least_walk_s3 : FS := (sSet 3 (f2 dIx (fVar 2) (f1 dNeg (fC (.int 1)))))
def shows_least_walk_s4 : FS := (sIf (fOr (fNot (fTest (f1 (dIsi .tup) (fVar 3)))) (fTest (f2 dNe (fCl dLen (fCons (fVar 3) fNil)) (fCl dLen (fCons (fVar 0) fNil))))) (sRet (fC (.bl false))) sNil)
def shows_least_walk_e0 : FE := (fCa 3 φ_is_int (fCons (fVar 5) (fCons (fC (.int 0)) (fCons (fC (.int 1000000000)) fNil))))
def shows_least_walk_c0 : FE := (fLc (fIt (fVar 4)) (gN 5) fYes shows_least_walk_e0 [5])
def shows_least_walk_b0 : FS := (sIf (fOr (fNot (fTest (f1 (dIsi .tup) (fVar 4)))) (fOr (fTest (f2 dNe (fCl dLen (fCons (fVar 4) fNil)) (fCl dLen (fCons (fVar 1) fNil)))) (fNot (fTest (fCl dAll (fCons shows_least_walk_c0 fNil)))))) (sRet (fC (.bl false))) sNil)
def shows_least_walk_l0 : FS := (sFor (fIt (fVar 3)) (gN 4) shows_least_walk_b0)
def shows_least_walk_s5 : FS := shows_least_walk_l0
def shows_least_walk_s6 : FS := (sIf (fTest (f2 dNe (f2 dIx (f2 dIx (fVar 3) (fC (.int 0))) (fC (.int 0))) (f2 dIx (fVar 2) (fC (.int 1))))) (sRet (fC (.bl false))) sNil)
def shows_least_walk_e1 : FE := (f2 dIx (f2 dIx (fVar 3) (f2 dIx (fVar 9) (fC (.int 0)))) (f2 dIx (fVar 9) (fC (.int 1))))
def shows_least_walk_c1 : FE := (fLc (fIt (fCa 3 φ_told_next (fCons (fVar 0) (fCons (fVar 1) (fCons (fTup (fCons (fVar 6) (fCons (fVar 7) fNil))) fNil))))) (gN 9) fYes shows_least_walk_e1 [9])
def shows_least_walk_b1 : FS := (sSeq (sSet 8 shows_least_walk_c1) (sIf (fTest (f2 dGt (f2 dIx (f2 dIx (fVar 3) (fVar 6)) (fVar 7)) (f2 dAdd (fCl dAbs (fCons (f2 dSub (f2 dIx (fVar 0) (fVar 6)) (f2 dIx (fVar 1) (fVar 7))) fNil)) (fIf (fTest (f2 dNe (fVar 8) (fLst fNil))) (fCl dMin (fCons (fVar 8) fNil)) (fC (.int 0)))))) (sRet (fC (.bl false))) sNil))
def shows_least_walk_l1 : FS := (sFor (fRg itRg1 (fCons (fCl dLen (fCons (fVar 1) fNil)) fNil)) (gN 7) shows_least_walk_b1)
def shows_least_walk_b2 : FS := shows_least_walk_l1
def shows_least_walk_l2 : FS := (sFor (fRg itRg1 (fCons (fCl dLen (fCons (fVar 0) fNil)) fNil)) (gN 6) shows_least_walk_b2)
def shows_least_walk_s7 : FS := shows_least_walk_l2
def shows_least_walk_s8 : FS := (sRet (fC (.bl true)))
def fs_shows_least_walk : FS := (sSeq shows_least_walk_s0 (sSeq shows_least_walk_s1 (sSeq shows_least_walk_s2 (sSeq shows_least_walk_s3 (sSeq shows_least_walk_s4 (sSeq shows_least_walk_s5 (sSeq shows_least_walk_s6 (sSeq shows_least_walk_s7 shows_least_walk_s8))))))))
def φ_shows_least_walk : FF := bodyF 10 fs_shows_least_walk
theorem sc_shows_least_walk : FnScope ["one", "other", "value", "rows", "row", "part", "mine", "its", "rests", "later"] ["one", "other", "value"] (defScope (top 23)) := ⟨rfl, rfl, rfl, by decide +kernel, rfl, by decide +kernel, by decide +kernel⟩
theorem bi_shows_least_walk : BindOk "shows_least_walk" (top 23) ["one", "other", "value"] := fun _ _ _ _ _ _ us hl => match us, hl with | [_, _, _], _ => rfl
theorem ok_shows_least_walk (V : Nv P w K mg base T) : Fn1 P w K mg base T 5 "shows_least_walk" (top 23) ["one", "other", "value"] φ_shows_least_walk :=
  Fn1.of V.d_shows_least_walk V.g_shows_least_walk sc_shows_least_walk bi_shows_least_walk fun cdv A outer s H E G => (ss_cons (s_exp (ca_ G ((ok_look_at_series V).up) (d_cons (v_ 0) (d_cons (v_ 1) d_nil)))) (ss_cons (s_if (L2.PW.pt (w_or (d_tnot (d_tval (ca_ G ((ok_is_told V).up) (d_cons (v_ 2) (d_cons (d_tup (d_cons (gi_ V.c_FOUR) d_nil)) d_nil))))) (w_or (d_tcmp (o_ne (by exact G.hu65)) (d_ix (by exact G.hu) (v_ 2) d_int) (gs_ V.c_WALK)) (w_or1 (d_tnot (d_tval (ca_ G ((ok_is_walk V).up) (d_cons (v_ 0) (d_cons (v_ 1) (d_cons (d_ix (by exact G.hu) (v_ 2) d_int) d_nil)))))))))) (ss_one (s_ret d_bl)) ss_nil) (ss_cons (s_if (L2.PW.pt (w_or (d_tnot (d_tval (ca_ G ((ok_is_int V).up) (d_cons (d_ix (by exact G.hu) (v_ 2) d_int) (d_cons d_int (d_cons (gi_ V.c_MOST_SUM) d_nil)))))) (w_or1 (d_tcmp (o_ne (by exact G.hu65)) (ca_ G ((ok_told_cost V).up) (d_cons (v_ 0) (d_cons (v_ 1) (d_cons (d_ix (by exact G.hu) (v_ 2) d_int) d_nil)))) (d_ix (by exact G.hu) (v_ 2) d_int))))) (ss_one (s_ret d_bl)) ss_nil) (ss_cons (st_ G 3 (d_ix (by exact G.hu) (v_ 2) (d_neg d_int))) (ss_cons (s_if (L2.PW.pt (w_or (d_tnot (d_tval (d_isi (b := .tup) (by decide) (v_ 3) rfl V.b_isinstance rfl V.b_tuple bt_tuple))) (w_or1 (d_tcmp (o_ne (by exact G.hu65)) (d_callB c_len rfl V.b_len bt_len (d_cons (v_ 3) d_nil)) (d_callB c_len rfl V.b_len bt_len (d_cons (v_ 0) d_nil)))))) (ss_one (s_ret d_bl)) ss_nil) (ss_cons (s_for owns_bx rfl (i_any (v_ 3)) (n_ (by exact G.nd) 4) (ss_one (s_if (L2.PW.pt (w_or (d_tnot (d_tval (d_isi (b := .tup) (by decide) (v_ 4) rfl V.b_isinstance rfl V.b_tuple bt_tuple))) (w_or (d_tcmp (o_ne (by exact G.hu65)) (d_callB c_len rfl V.b_len bt_len (d_cons (v_ 4) d_nil)) (d_callB c_len rfl V.b_len bt_len (d_cons (v_ 1) d_nil))) (w_or1 (d_tnot (d_tval (d_callB (c_all rfl) rfl V.b_all bt_all (d_cons (d_lc (own := [("part", 5)]) rfl (by exact G.nd) (i_any (v_ 4)) (blkOk_by rfl) (fun s1 H1 C1 cl1 fp1 => (n_ (by exact G.nd) 5)) (fun s1 H1 C1 cl1 fp1 => ts_none) (fun s1 H1 C1 cl1 fp1 => (ca_ (Good.blk G s1 H1 _ _ fp1) ((ok_is_int V).up) (d_cons (v_ 5) (d_cons d_int (d_cons (gi_ V.c_MOST_SUM) d_nil))))) (by decide)) d_nil)))))))) (ss_one (s_ret d_bl)) ss_nil))) (ss_cons (s_if (d_tcmp (o_ne (by exact G.hu65)) (d_ix (by exact G.hu) (d_ix (by exact G.hu) (v_ 3) d_int) d_int) (d_ix (by exact G.hu) (v_ 2) d_int)) (ss_one (s_ret d_bl)) ss_nil) (ss_cons (s_for owns_bx rfl (i_range1 rfl V.b_range (d_cons (d_callB c_len rfl V.b_len bt_len (d_cons (v_ 0) d_nil)) d_nil)) (n_ (by exact G.nd) 6) (ss_one (s_for owns_bx rfl (i_range1 rfl V.b_range (d_cons (d_callB c_len rfl V.b_len bt_len (d_cons (v_ 1) d_nil)) d_nil)) (n_ (by exact G.nd) 7) (ss_cons (s_setLc (i := 8) (own := [("later", 9)]) rfl (by exact G.nd) rfl rfl (sw_true rfl rfl rfl (by decide +kernel)) (i_any (ca_ G ((ok_told_next V).up) (d_cons (v_ 0) (d_cons (v_ 1) (d_cons (d_tup (d_cons (v_ 6) (d_cons (v_ 7) d_nil))) d_nil))))) (blkOk_by rfl) (fun s1 H1 C1 cl1 fp1 => (n_ (by exact G.nd) 9)) (fun s1 H1 C1 cl1 fp1 => ts_none) (fun s1 H1 C1 cl1 fp1 => (d_ix (by exact G.hu) (d_ix (by exact G.hu) (v_ 3) (d_ix (by exact G.hu) (v_ 9) d_int)) (d_ix (by exact G.hu) (v_ 9) d_int))) (by decide)) (ss_one (s_if (d_tcmp o_gt (d_ix (by exact G.hu) (d_ix (by exact G.hu) (v_ 3) (v_ 6)) (v_ 7)) (d_bin o_add (d_callB c_abs rfl V.b_abs bt_abs (d_cons (d_bin o_sub (d_ix (by exact G.hu) (v_ 0) (v_ 6)) (d_ix (by exact G.hu) (v_ 1) (v_ 7))) d_nil)) (d_if (d_tcmp (o_ne (by exact G.hu65)) (v_ 8) (d_lst d_nil)) (d_callB (c_min rfl) rfl V.b_min bt_min (d_cons (v_ 8) d_nil)) d_int))) (ss_one (s_ret d_bl)) ss_nil)))))) (ss_one (s_ret d_bl))))))))))

def fs_least_walk_in_band : FS := (sSeq (sExp (fCa 2 φ_look_at_series (fCons (fVar 0) (fCons (fVar 1) fNil)))) (sSeq (sIf (fNot (fTest (fCa 3 φ_is_int (fCons (fVar 2) (fCons (fC (.int 0)) (fCons (fC (.int 40)) fNil)))))) (sRaise "BadInt" (fVar 2)) sNil) (sSeq (sSet 3 (fCa 3 φ_told_labels (fCons (fVar 0) (fCons (fVar 1) (fCons (fVar 2) fNil))))) (sRet (fTup (fCons (f2 dIx (fVar 3) (fTup (fCons (fC (.int 0)) (fCons (fC (.int 0)) fNil)))) (fCons (fCa 3 φ_told_walk (fCons (fVar 0) (fCons (fVar 1) (fCons (fVar 3) fNil)))) fNil)))))))
def φ_least_walk_in_band : FF := bodyF 4 fs_least_walk_in_band
theorem sc_least_walk_in_band : FnScope ["one", "other", "wide", "labels"] ["one", "other", "wide"] (defScope (top 24)) := ⟨rfl, rfl, rfl, by decide +kernel, rfl, by decide +kernel, by decide +kernel⟩
theorem bi_least_walk_in_band : BindOk "least_walk_in_band" (top 24) ["one", "other", "wide"] := fun _ _ _ _ _ _ us hl => match us, hl with | [_, _, _], _ => rfl
theorem ok_least_walk_in_band (V : Nv P w K mg base T) : Fn1 P w K mg base T 4 "least_walk_in_band" (top 24) ["one", "other", "wide"] φ_least_walk_in_band :=
  Fn1.of V.d_least_walk_in_band V.g_least_walk_in_band sc_least_walk_in_band bi_least_walk_in_band fun cdv A outer s H E G => (ss_cons (s_exp (ca_ G ((ok_look_at_series V).up) (d_cons (v_ 0) (d_cons (v_ 1) d_nil)))) (ss_cons (s_if (d_tnot (d_tval (ca_ G ((ok_is_int V).up) (d_cons (v_ 2) (d_cons d_int (d_cons (gi_ V.c_MOST_NUMBERS) d_nil)))))) (ss_one (s_raise G (ex_BadInt V) (v_ 2))) ss_nil) (ss_cons (st_ G 3 (ca_ G ((ok_told_labels V).up) (d_cons (v_ 0) (d_cons (v_ 1) (d_cons (v_ 2) d_nil))))) (ss_one (s_ret (d_tup (d_cons (d_ix (by exact G.hu) (v_ 3) (d_tup (d_cons d_int (d_cons d_int d_nil)))) (d_cons (ca_ G ((ok_told_walk V).up) (d_cons (v_ 0) (d_cons (v_ 1) (d_cons (v_ 3) d_nil)))) d_nil))))))))

def how_many_walks_e0 : FE := (f2 dIx (fVar 2) (fVar 6))
def how_many_walks_c0 : FE := (fLc (fIt (fCa 3 φ_told_next (fCons (fVar 0) (fCons (fVar 1) (fCons (fTup (fCons (fVar 3) (fCons (fVar 4) fNil))) fNil))))) (gN 6) fYes how_many_walks_e0 [6])
def how_many_walks_b0 : FS := (sSeq (sSet 5 how_many_walks_c0) (sAsg (fIf (fTest (f2 dNe (fVar 5) (fLst fNil))) (fCl dSum (fCons (fVar 5) fNil)) (fC (.int 1))) (gSb (fVar 2) (fTup (fCons (fVar 3) (fCons (fVar 4) fNil))))))
def how_many_walks_l0 : FS := (sFor (fRg itRg3 (fCons (f2 dSub (fCl dLen (fCons (fVar 1) fNil)) (fC (.int 1))) (fCons (f1 dNeg (fC (.int 1))) (fCons (f1 dNeg (fC (.int 1))) fNil)))) (gN 4) how_many_walks_b0)
def how_many_walks_b1 : FS := how_many_walks_l0
def how_many_walks_l1 : FS := (sFor (fRg itRg3 (fCons (f2 dSub (fCl dLen (fCons (fVar 0) fNil)) (fC (.int 1))) (fCons (f1 dNeg (fC (.int 1))) (fCons (f1 dNeg (fC (.int 1))) fNil)))) (gN 3) how_many_walks_b1)
def fs_how_many_walks : FS := (sSeq (sExp (fCa 2 φ_look_at_series (fCons (fVar 0) (fCons (fVar 1) fNil)))) (sSeq (sSet 2 fDT) (sSeq how_many_walks_l1 (sRet (f2 dIx (fVar 2) (fTup (fCons (fC (.int 0)) (fCons (fC (.int 0)) fNil))))))))
def φ_how_many_walks : FF := bodyF 7 fs_how_many_walks
theorem sc_how_many_walks : FnScope ["one", "other", "ways", "mine", "its", "some", "later"] ["one", "other"] (defScope (top 25)) := ⟨rfl, rfl, rfl, by decide +kernel, rfl, by decide +kernel, by decide +kernel⟩
theorem bi_how_many_walks : BindOk "how_many_walks" (top 25) ["one", "other"] := fun _ _ _ _ _ _ us hl => match us, hl with | [_, _], _ => rfl
theorem ok_how_many_walks (V : Nv P w K mg base T) : Fn1 P w K mg base T 4 "how_many_walks" (top 25) ["one", "other"] φ_how_many_walks :=
  Fn1.of V.d_how_many_walks V.g_how_many_walks sc_how_many_walks bi_how_many_walks fun cdv A outer s H E G => (ss_cons (s_exp (ca_ G ((ok_look_at_series V).up) (d_cons (v_ 0) (d_cons (v_ 1) d_nil)))) (ss_cons (st_ G 2 d_dictT) (ss_cons (s_for owns_bx rfl (i_range3 rfl V.b_range (d_cons (d_bin o_sub (d_callB c_len rfl V.b_len bt_len (d_cons (v_ 0) d_nil)) d_int) (d_cons (d_neg d_int) (d_cons (d_neg d_int) d_nil)))) (n_ (by exact G.nd) 3) (ss_one (s_for owns_bx rfl (i_range3 rfl V.b_range (d_cons (d_bin o_sub (d_callB c_len rfl V.b_len bt_len (d_cons (v_ 1) d_nil)) d_int) (d_cons (d_neg d_int) (d_cons (d_neg d_int) d_nil)))) (n_ (by exact G.nd) 4) (ss_cons (s_setLc (i := 5) (own := [("later", 6)]) rfl (by exact G.nd) rfl rfl (sw_true rfl rfl rfl (by decide +kernel)) (i_any (ca_ G ((ok_told_next V).up) (d_cons (v_ 0) (d_cons (v_ 1) (d_cons (d_tup (d_cons (v_ 3) (d_cons (v_ 4) d_nil))) d_nil))))) (blkOk_by rfl) (fun s1 H1 C1 cl1 fp1 => (n_ (by exact G.nd) 6)) (fun s1 H1 C1 cl1 fp1 => ts_none) (fun s1 H1 C1 cl1 fp1 => (d_ix (by exact G.hu) (v_ 2) (v_ 6))) (by decide)) (ss_one (s_asg (d_if (d_tcmp (o_ne (by exact G.hu65)) (v_ 5) (d_lst d_nil)) (d_callB (c_sum rfl) rfl V.b_sum bt_sum (d_cons (v_ 5) d_nil)) d_int) (t_sub (by exact G.hu) (v_ 2) (d_tup (d_cons (v_ 3) (d_cons (v_ 4) d_nil)))))))))) (ss_one (s_ret (d_ix (by exact G.hu) (v_ 2) (d_tup (d_cons d_int (d_cons d_int d_nil)))))))))

def how_many_least_e0 : FE := (f2 dIx (fVar 2) (fVar 7))
def how_many_least_c0 : FE := (fLc (fIt (fVar 5)) (gN 7) fYes how_many_least_e0 [7])
def how_many_least_t0 : FT := (fTest (f2 dEq (f2 dIx (fVar 2) (fVar 7)) (fVar 6)))
def how_many_least_e1 : FE := (f2 dIx (fVar 3) (fVar 7))
def how_many_least_c1 : FE := (fLc (fIt (fVar 5)) (gN 7) how_many_least_t0 how_many_least_e1 [7])
def how_many_least_b0 : FS := (sSeq (sSet 5 (fCa 3 φ_told_next (fCons (fVar 0) (fCons (fVar 1) (fCons (fVar 4) fNil))))) (sSeq (sSet 6 (fIf (fTest (f2 dNe (fVar 5) (fLst fNil))) (fCl dMin (fCons how_many_least_c0 fNil)) (fC (.int 0)))) (sAsg (fIf (fTest (f2 dNe (fVar 5) (fLst fNil))) (fCl dSum (fCons how_many_least_c1 fNil)) (fC (.int 1))) (gSb (fVar 3) (fVar 4)))))
def how_many_least_l0 : FS := (sForD 2 (gN 4) how_many_least_b0)
def fs_how_many_least : FS := (sSeq (sExp (fCa 2 φ_look_at_series (fCons (fVar 0) (fCons (fVar 1) fNil)))) (sSeq (sAsg (fTup (fCons (fCa 3 φ_told_labels (fCons (fVar 0) (fCons (fVar 1) (fCons (fC .non) fNil)))) (fCons fDT fNil))) (gT 2 (gsC (gN 2) (gsC (gN 3) gsN)))) (sSeq how_many_least_l0 (sRet (f2 dIx (fVar 3) (fTup (fCons (fC (.int 0)) (fCons (fC (.int 0)) fNil))))))))
def φ_how_many_least : FF := bodyF 8 fs_how_many_least
theorem sc_how_many_least : FnScope ["one", "other", "labels", "ways", "place", "some", "least", "later"] ["one", "other"] (defScope (top 26)) := ⟨rfl, rfl, rfl, by decide +kernel, rfl, by decide +kernel, by decide +kernel⟩
theorem bi_how_many_least : BindOk "how_many_least" (top 26) ["one", "other"] := fun _ _ _ _ _ _ us hl => match us, hl with | [_, _], _ => rfl
theorem ok_how_many_least (V : Nv P w K mg base T) : Fn1 P w K mg base T 4 "how_many_least" (top 26) ["one", "other"] φ_how_many_least :=
  Fn1.of V.d_how_many_least V.g_how_many_least sc_how_many_least bi_how_many_least fun cdv A outer s H E G => (ss_cons (s_exp (ca_ G ((ok_look_at_series V).up) (d_cons (v_ 0) (d_cons (v_ 1) d_nil)))) (ss_cons (s_asg (d_tup (d_cons (ca_ G ((ok_told_labels V).up) (d_cons (v_ 0) (d_cons (v_ 1) (d_cons d_non d_nil)))) (d_cons d_dictT d_nil))) (t_tup rfl (ts_cons (n_ (by exact G.nd) 2) (ts_cons (n_ (by exact G.nd) 3) ts_nil)))) (ss_cons (s_forD (i := 2) owns_bx rfl rfl (by first | exact Or.inl rfl | exact Or.inr (Or.inl rfl) | exact Or.inr (Or.inr rfl)) (n_ (by exact G.nd) 4) (ss_cons (st_ G 5 (ca_ G ((ok_told_next V).up) (d_cons (v_ 0) (d_cons (v_ 1) (d_cons (v_ 4) d_nil))))) (ss_cons (st_ G 6 (d_if (d_tcmp (o_ne (by exact G.hu65)) (v_ 5) (d_lst d_nil)) (d_callB (c_min rfl) rfl V.b_min bt_min (d_cons (d_lc (own := [("later", 7)]) rfl (by exact G.nd) (i_any (v_ 5)) (blkOk_by rfl) (fun s1 H1 C1 cl1 fp1 => (n_ (by exact G.nd) 7)) (fun s1 H1 C1 cl1 fp1 => ts_none) (fun s1 H1 C1 cl1 fp1 => (d_ix (by exact G.hu) (v_ 2) (v_ 7))) (by decide)) d_nil)) d_int)) (ss_one (s_asg (d_if (d_tcmp (o_ne (by exact G.hu65)) (v_ 5) (d_lst d_nil)) (d_callB (c_sum rfl) rfl V.b_sum bt_sum (d_cons (d_lc (own := [("later", 7)]) rfl (by exact G.nd) (i_any (v_ 5)) (blkOk_by rfl) (fun s1 H1 C1 cl1 fp1 => (n_ (by exact G.nd) 7)) (fun s1 H1 C1 cl1 fp1 => (ts_one (d_tcmp (o_eq (by exact G.hu65)) (d_ix (by exact G.hu) (v_ 2) (v_ 7)) (v_ 6)))) (fun s1 H1 C1 cl1 fp1 => (d_ix (by exact G.hu) (v_ 3) (v_ 7))) (by decide)) d_nil)) d_int) (t_sub (by exact G.hu) (v_ 3) (v_ 4))))))) (ss_one (s_ret (d_ix (by exact G.hu) (v_ 3) (d_tup (d_cons d_int (d_cons d_int d_nil)))))))))

def fs_bound_of : FS := (sSeq (sExp (fCa 2 φ_look_at_series (fCons (fVar 0) (fCons (fVar 1) fNil)))) (sSeq (sSet 2 (f2 dAdd (fCl dAbs (fCons (f2 dSub (f2 dIx (fVar 0) (fC (.int 0))) (f2 dIx (fVar 1) (fC (.int 0)))) fNil)) (fIf (fTest (f2 dGt (f2 dAdd (fCl dLen (fCons (fVar 0) fNil)) (fCl dLen (fCons (fVar 1) fNil))) (fC (.int 2)))) (fCl dAbs (fCons (f2 dSub (f2 dIx (fVar 0) (f1 dNeg (fC (.int 1)))) (f2 dIx (fVar 1) (f1 dNeg (fC (.int 1))))) fNil)) (fC (.int 0))))) (sRet (fCl dMax (fCons (fVar 2) (fCons (fCl dMax (fCons (fC (.int 0)) (fCons (f2 dSub (fCl dMax (fCons (fVar 0) fNil)) (fCl dMax (fCons (fVar 1) fNil))) fNil))) (fCons (fCl dMax (fCons (fC (.int 0)) (fCons (f2 dSub (fCl dMin (fCons (fVar 1) fNil)) (fCl dMin (fCons (fVar 0) fNil))) fNil))) fNil)))))))
def φ_bound_of : FF := bodyF 3 fs_bound_of
theorem sc_bound_of : FnScope ["one", "other", "ends"] ["one", "other"] (defScope (top 27)) := ⟨rfl, rfl, rfl, by decide +kernel, rfl, by decide +kernel, by decide +kernel⟩
theorem bi_bound_of : BindOk "bound_of" (top 27) ["one", "other"] := fun _ _ _ _ _ _ us hl => match us, hl with | [_, _], _ => rfl
theorem ok_bound_of (V : Nv P w K mg base T) : Fn1 P w K mg base T 4 "bound_of" (top 27) ["one", "other"] φ_bound_of :=
  Fn1.of V.d_bound_of V.g_bound_of sc_bound_of bi_bound_of fun cdv A outer s H E G => (ss_cons (s_exp (ca_ G ((ok_look_at_series V).up) (d_cons (v_ 0) (d_cons (v_ 1) d_nil)))) (ss_cons (st_ G 2 (d_bin o_add (d_callB c_abs rfl V.b_abs bt_abs (d_cons (d_bin o_sub (d_ix (by exact G.hu) (v_ 0) d_int) (d_ix (by exact G.hu) (v_ 1) d_int)) d_nil)) (d_if (d_tcmp o_gt (d_bin o_add (d_callB c_len rfl V.b_len bt_len (d_cons (v_ 0) d_nil)) (d_callB c_len rfl V.b_len bt_len (d_cons (v_ 1) d_nil))) d_int) (d_callB c_abs rfl V.b_abs bt_abs (d_cons (d_bin o_sub (d_ix (by exact G.hu) (v_ 0) (d_neg d_int)) (d_ix (by exact G.hu) (v_ 1) (d_neg d_int))) d_nil)) d_int))) (ss_one (s_ret (d_callB (c_max rfl) rfl V.b_max bt_max (d_cons (v_ 2) (d_cons (d_callB (c_max rfl) rfl V.b_max bt_max (d_cons d_int (d_cons (d_bin o_sub (d_callB (c_max rfl) rfl V.b_max bt_max (d_cons (v_ 0) d_nil)) (d_callB (c_max rfl) rfl V.b_max bt_max (d_cons (v_ 1) d_nil))) d_nil))) (d_cons (d_callB (c_max rfl) rfl V.b_max bt_max (d_cons d_int (d_cons (d_bin o_sub (d_callB (c_min rfl) rfl V.b_min bt_min (d_cons (v_ 1) d_nil)) (d_callB (c_min rfl) rfl V.b_min bt_min (d_cons (v_ 0) d_nil))) d_nil))) d_nil))))))))

def fs__law_pot : FS := (sSeq (sSet 2 (fIf (fTest (f2 dLt (fVar 1) (fCl dLen (fCons (fVar 0) fNil)))) (f2 dIx (fVar 0) (fVar 1)) (f2 dAdd (f2 dAdd (f2 dMod (fCl dInt (fCons (fCl dSum (fCons (fSl (fVar 0) fNoPart (fPart (fC (.int 1)))) fNil)) fNil)) (fC (.int 1000381))) (f2 dMul (fC (.int 5077)) (fVar 1))) (fC (.int 3121))))) (sSeq (sSet 3 (f2 dMul (f2 dMod (fCl dInt (fCons (fCl dAbs (fCons (fVar 2) fNil)) fNil)) (f2 dPow (f2 dPow (fC (.int 10)) (fC (.int 60))) (fC (.int 5)))) (fCl dInt (fCons (f2 dGe (fCl dAbs (fCons (fVar 2) fNil)) (f2 dPow (fC (.int 10)) (fC (.int 18)))) fNil)))) (sSeq (sSet 4 (f2 dMod (fCl dInt (fCons (fVar 2) fNil)) (fC (.int 2305843009213693921)))) (sRet (fLstM (fCons (fVar 3) (fCons (f2 dMod (fCl dInt (fCons (f2 dAdd (f2 dAdd (f2 dMul (fVar 4) (fC (.int 70207))) (f2 dMul (f2 dMul (fC (.int 13099)) (fVar 1)) (fVar 1))) (fC (.int 2957))) fNil)) (fC (.int 2305843009213693921))) (fCons (fC (.int 0)) fNil))))))))
def φ__law_pot : FF := bodyK 5 fs__law_pot
theorem sc__law_pot : FnScope ["script", "place", "cell", "own", "small"] ["script", "place"] (defScope (top 29)) := ⟨rfl, rfl, rfl, by decide +kernel, rfl, by decide +kernel, by decide +kernel⟩
theorem bi__law_pot : BindOk "_law_pot" (top 29) ["script", "place"] := fun _ _ _ _ _ _ us hl => match us, hl with | [_, _], _ => rfl
theorem ok__law_pot (V : Nv P w K mg base T) : Fn1 P w K mg base T 1 "_law_pot" (top 29) ["script", "place"] φ__law_pot :=
  Fn1.keep V.d__law_pot V.g__law_pot sc__law_pot bi__law_pot fun cdv A outer s H E G => (ss_cons (st_ G 2 (d_if (d_tcmp o_lt (v_ 1) (d_callB c_len rfl V.b_len bt_len (d_cons (v_ 0) d_nil))) (d_ix (by exact G.hu) (v_ 0) (v_ 1)) (d_bin o_add (d_bin o_add (d_bin o_mod (d_callTy c_int rfl V.b_int bt_int (d_cons (d_callB (c_sum rfl) rfl V.b_sum bt_sum (d_cons (d_slice (v_ 0) p_none (p_some d_int)) d_nil)) d_nil)) d_int) (d_bin o_mul d_int (v_ 1))) d_int))) (ss_cons (st_ G 3 (d_bin o_mul (d_bin o_mod (d_callTy c_int rfl V.b_int bt_int (d_cons (d_callB c_abs rfl V.b_abs bt_abs (d_cons (v_ 2) d_nil)) d_nil)) (d_bin o_pow (d_bin o_pow d_int d_int) d_int)) (d_callTy c_int rfl V.b_int bt_int (d_cons (d_cmp o_ge (d_callB c_abs rfl V.b_abs bt_abs (d_cons (v_ 2) d_nil)) (d_bin o_pow d_int d_int)) d_nil)))) (ss_cons (st_ G 4 (d_bin o_mod (d_callTy c_int rfl V.b_int bt_int (d_cons (v_ 2) d_nil)) d_int)) (ss_one (s_ret (d_lstM (d_cons (v_ 3) (d_cons (d_bin o_mod (d_callTy c_int rfl V.b_int bt_int (d_cons (d_bin o_add (d_bin o_add (d_bin o_mul (v_ 4) d_int) (d_bin o_mul (d_bin o_mul d_int (v_ 1)) (v_ 1))) d_int) d_nil)) d_int) (d_cons d_int d_nil)))))))))

def fs__law_take : FS := (sSeq (sIf (fTest (f2 dGt (f2 dIx (fVar 0) (fC (.int 0))) (fC (.int 0)))) (sSeq (sSet 2 (f2 dMod (fCl dInt (fCons (f2 dIx (fVar 0) (fC (.int 0))) fNil)) (fVar 1))) (sSeq (sAsg (f2 dFdiv (f2 dIx (fVar 0) (fC (.int 0))) (fVar 1)) (gSb (fVar 0) (fC (.int 0)))) (sRet (fVar 2)))) sNil) (sSeq (sAsg (f2 dAdd (f2 dIx (fVar 0) (fC (.int 2))) (fC (.int 1))) (gSb (fVar 0) (fC (.int 2)))) (sSeq (sSet 3 (f2 dIx (fLst (fCons (fC (.int 2147483647)) (fCons (fC (.int 2147483629)) (fCons (fC (.int 2147483587)) (fCons (fC (.int 2147483579)) (fCons (fC (.int 2147483563)) fNil)))))) (f2 dMod (fCl dInt (fCons (f2 dIx (fVar 0) (fC (.int 2))) fNil)) (fC (.int 5))))) (sSeq (sSet 4 (f2 dMod (fCl dInt (fCons (f2 dPow (fCl dInt (fCons (f2 dAdd (f2 dAdd (f2 dIx (fVar 0) (fC (.int 1))) (f2 dMul (f2 dMul (fC (.int 90007)) (f2 dIx (fVar 0) (fC (.int 2)))) (f2 dIx (fVar 0) (fC (.int 2))))) (fC (.int 3011))) fNil)) (fC (.int 3))) fNil)) (fVar 3))) (sSeq (sSet 4 (f2 dMod (fCl dInt (fCons (f2 dMul (fVar 4) (f2 dAdd (f2 dMod (fCl dInt (fCons (fVar 4) fNil)) (fC (.int 13729))) (f2 dMul (fC (.int 433)) (f2 dIx (fVar 0) (fC (.int 2)))))) fNil)) (fC (.int 2305843009213693907)))) (sRet (f2 dMod (fCl dInt (fCons (f2 dFdiv (fVar 4) (fC (.int 239))) fNil)) (fVar 1))))))))
def φ__law_take : FF := bodyF 5 fs__law_take
theorem sc__law_take : FnScope ["pot", "upto", "digit", "prime", "mixture"] ["pot", "upto"] (defScope (top 30)) := ⟨rfl, rfl, rfl, by decide +kernel, rfl, by decide +kernel, by decide +kernel⟩
theorem bi__law_take : BindOk "_law_take" (top 30) ["pot", "upto"] := fun _ _ _ _ _ _ us hl => match us, hl with | [_, _], _ => rfl
theorem ok__law_take (V : Nv P w K mg base T) : Fn1 P w K mg base T 1 "_law_take" (top 30) ["pot", "upto"] φ__law_take :=
  Fn1.of V.d__law_take V.g__law_take sc__law_take bi__law_take fun cdv A outer s H E G => (ss_cons (s_if (d_tcmp o_gt (d_ix (by exact G.hu) (v_ 0) d_int) d_int) (ss_cons (st_ G 2 (d_bin o_mod (d_callTy c_int rfl V.b_int bt_int (d_cons (d_ix (by exact G.hu) (v_ 0) d_int) d_nil)) (v_ 1))) (ss_cons (s_asg (d_bin o_fdiv (d_ix (by exact G.hu) (v_ 0) d_int) (v_ 1)) (t_sub (by exact G.hu) (v_ 0) d_int)) (ss_one (s_ret (v_ 2))))) ss_nil) (ss_cons (s_asg (d_bin o_add (d_ix (by exact G.hu) (v_ 0) d_int) d_int) (t_sub (by exact G.hu) (v_ 0) d_int)) (ss_cons (st_ G 3 (d_ix (by exact G.hu) (d_lst (d_cons d_int (d_cons d_int (d_cons d_int (d_cons d_int (d_cons d_int d_nil)))))) (d_bin o_mod (d_callTy c_int rfl V.b_int bt_int (d_cons (d_ix (by exact G.hu) (v_ 0) d_int) d_nil)) d_int))) (ss_cons (st_ G 4 (d_bin o_mod (d_callTy c_int rfl V.b_int bt_int (d_cons (d_bin o_pow (d_callTy c_int rfl V.b_int bt_int (d_cons (d_bin o_add (d_bin o_add (d_ix (by exact G.hu) (v_ 0) d_int) (d_bin o_mul (d_bin o_mul d_int (d_ix (by exact G.hu) (v_ 0) d_int)) (d_ix (by exact G.hu) (v_ 0) d_int))) d_int) d_nil)) d_int) d_nil)) (v_ 3))) (ss_cons (st_ G 4 (d_bin o_mod (d_callTy c_int rfl V.b_int bt_int (d_cons (d_bin o_mul (v_ 4) (d_bin o_add (d_bin o_mod (d_callTy c_int rfl V.b_int bt_int (d_cons (v_ 4) d_nil)) d_int) (d_bin o_mul d_int (d_ix (by exact G.hu) (v_ 0) d_int)))) d_nil)) d_int)) (ss_one (s_ret (d_bin o_mod (d_callTy c_int rfl V.b_int bt_int (d_cons (d_bin o_fdiv (v_ 4) d_int) d_nil)) (v_ 1)))))))))

def fs__law_of : FS := (sRet (f2 dIx (fVar 1) (fCa 2 φ__law_take (fCons (fVar 0) (fCons (fCl dLen (fCons (fVar 1) fNil)) fNil)))))
def φ__law_of : FF := bodyF 2 fs__law_of
theorem sc__law_of : FnScope ["pot", "some"] ["pot", "some"] (defScope (top 31)) := ⟨rfl, rfl, rfl, by decide +kernel, rfl, by decide +kernel, by decide +kernel⟩
theorem bi__law_of : BindOk "_law_of" (top 31) ["pot", "some"] := fun _ _ _ _ _ _ us hl => match us, hl with | [_, _], _ => rfl
theorem ok__law_of (V : Nv P w K mg base T) : Fn1 P w K mg base T 2 "_law_of" (top 31) ["pot", "some"] φ__law_of :=
  Fn1.of V.d__law_of V.g__law_of sc__law_of bi__law_of fun cdv A outer s H E G => (ss_one (s_ret (d_ix (by exact G.hu) (v_ 1) (ca_ G ((ok__law_take V).up) (d_cons (v_ 0) (d_cons (d_callB c_len rfl V.b_len bt_len (d_cons (v_ 1) d_nil)) d_nil))))))

end
end K71
set_option Elab.async false
set_option linter.all false
set_option maxRecDepth 100000
set_option maxHeartbeats 0
namespace K71
open PySem PySem.Spec PyProof.Rows L2 Dn
noncomputable section
variable {P : Program} {w : World} {K : PySem.W.Frag} {mg : Str → Option Value} {base : Heap} {T : List (Addr × Str)}
def fs__law_cells : FS := (sRet (fLRg (fCl dMax (fCons (fC (.int 1)) (fCons (fCl dMin (fCons (fVar 1) (fCons (fCl dLen (fCons (fVar 0) fNil)) fNil))) fNil)))))
def φ__law_cells : FF := bodyF 2 fs__law_cells
theorem sc__law_cells : FnScope ["script", "most"] ["script", "most"] (defScope (top 32)) := ⟨rfl, rfl, rfl, by decide +kernel, rfl, by decide +kernel, by decide +kernel⟩
theorem bi__law_cells : BindOk "_law_cells" (top 32) ["script", "most"] := fun _ _ _ _ _ _ us hl => match us, hl with | [_, _], _ => rfl
theorem ok__law_cells (V : Nv P w K mg base T) : Fn1 P w K mg base T 1 "_law_cells" (top 32) ["script", "most"] φ__law_cells :=
  Fn1.of V.d__law_cells V.g__law_cells sc__law_cells bi__law_cells fun cdv A outer s H E G => (ss_one (s_ret (d_listRg rfl rfl V.b_list rfl V.b_range (d_callB (c_max rfl) rfl V.b_max bt_max (d_cons d_int (d_cons (d_callB (c_min rfl) rfl V.b_min bt_min (d_cons (v_ 1) (d_cons (d_callB c_len rfl V.b_len bt_len (d_cons (v_ 0) d_nil)) d_nil))) d_nil))))))

def fs__law_odd : FS := (sSeq (sSet 1 (fLst (fCons (fC .non) (fCons (fC (.bl true)) (fCons (fC (.bl false)) (fCons (fC (.int 0)) (fCons (fC (.int 1)) (fCons (f1 dNeg (fC (.int 1))) (fCons (fC (.int 2)) (fCons (fC (.int 33)) (fCons (f2 dPow (fC (.int 10)) (fC (.int 20))) (fCons (fC (.str "")) (fCons (fC (.str "a")) (fCons (fC (.str "-")) (fCons (fTup fNil) (fCons (fLst fNil) (fCons fDK0 (fCons (fTup (fCons (fC (.int 0)) fNil)) (fCons (fTup (fCons (fTup fNil) fNil)) (fCons (fLst (fCons (fC (.int 1)) fNil)) (fCons (fTup (fCons (fTup (fCons (fC (.str "a")) (fCons (fC (.str "a")) fNil))) fNil)) fNil))))))))))))))))))))) (sSeq (sSet 1 (f2 dAdd (fVar 1) (fLst (fCons (fTup (fCons (fC (.int 0)) (fCons (fC (.int 1)) fNil))) (fCons (fTup (fCons (fC .non) fNil)) (fCons (fDK1 "a" (fC (.int 1))) (fCons (fTup (fCons (fTup (fCons (fC (.int 0)) (fCons (fC (.int 1)) fNil))) (fCons (fTup (fCons (fC (.int 1)) (fCons (fC (.int 2)) fNil))) fNil))) (fCons (fTup (fCons (fC (.int 2)) (fCons (fC (.int 1)) (fCons (fC (.int 0)) fNil)))) (fCons (fTup (fCons (fTup (fCons (fC (.bl true)) fNil)) fNil)) (fCons (fTup (fCons (fC (.str "none")) (fCons (fC (.int 3)) fNil))) (fCons (fTup (fCons (fC (.str "ones")) fNil)) fNil))))))))))) (sRet (fCa 2 φ__law_of (fCons (fVar 0) (fCons (fVar 1) fNil))))))
def φ__law_odd : FF := bodyF 2 fs__law_odd
theorem sc__law_odd : FnScope ["pot", "some"] ["pot"] (defScope (top 34)) := ⟨rfl, rfl, rfl, by decide +kernel, rfl, by decide +kernel, by decide +kernel⟩
theorem bi__law_odd : BindOk "_law_odd" (top 34) ["pot"] := fun _ _ _ _ _ _ us hl => match us, hl with | [_], _ => rfl
theorem ok__law_odd (V : Nv P w K mg base T) : Fn1 P w K mg base T 3 "_law_odd" (top 34) ["pot"] φ__law_odd :=
  Fn1.of V.d__law_odd V.g__law_odd sc__law_odd bi__law_odd fun cdv A outer s H E G => (ss_cons (st_ G 1 (d_lst (d_cons d_non (d_cons d_bl (d_cons d_bl (d_cons d_int (d_cons d_int (d_cons (d_neg d_int) (d_cons d_int (d_cons d_int (d_cons (d_bin o_pow d_int d_int) (d_cons d_str (d_cons d_str (d_cons d_str (d_cons (d_tup d_nil) (d_cons (d_lst d_nil) (d_cons d_dict0 (d_cons (d_tup (d_cons d_int d_nil)) (d_cons (d_tup (d_cons (d_tup d_nil) d_nil)) (d_cons (d_lst (d_cons d_int d_nil)) (d_cons (d_tup (d_cons (d_tup (d_cons d_str (d_cons d_str d_nil))) d_nil)) d_nil))))))))))))))))))))) (ss_cons (st_ G 1 (d_bin o_add (v_ 1) (d_lst (d_cons (d_tup (d_cons d_int (d_cons d_int d_nil))) (d_cons (d_tup (d_cons d_non d_nil)) (d_cons (d_dict1 (e := .Constant .none 0 ⟨0, 0, 0, 0⟩)) (d_cons (d_tup (d_cons (d_tup (d_cons d_int (d_cons d_int d_nil))) (d_cons (d_tup (d_cons d_int (d_cons d_int d_nil))) d_nil))) (d_cons (d_tup (d_cons d_int (d_cons d_int (d_cons d_int d_nil)))) (d_cons (d_tup (d_cons (d_tup (d_cons d_bl d_nil)) d_nil)) (d_cons (d_tup (d_cons d_str (d_cons d_int d_nil))) (d_cons (d_tup (d_cons d_str d_nil)) d_nil))))))))))) (ss_one (s_ret (ca_ G ((ok__law_of V).up) (d_cons (v_ 0) (d_cons (v_ 1) d_nil)))))))

def fs__law_is_int : FS := (sRet (fAndV (f1 (dIsi .int) (fVar 0)) (fAndV (fNotV (f1 (dIsi .bl) (fVar 0))) (fChain dLe dLe (fVar 1) (fVar 0) (fVar 2)))))
def φ__law_is_int : FF := bodyF 3 fs__law_is_int
theorem sc__law_is_int : FnScope ["value", "low", "high"] ["value", "low", "high"] (defScope (top 35)) := ⟨rfl, rfl, rfl, by decide +kernel, rfl, by decide +kernel, by decide +kernel⟩
theorem bi__law_is_int : BindOk "_law_is_int" (top 35) ["value", "low", "high"] := fun _ _ _ _ _ _ us hl => match us, hl with | [_, _, _], _ => rfl
theorem ok__law_is_int (V : Nv P w K mg base T) : Fn1 P w K mg base T 1 "_law_is_int" (top 35) ["value", "low", "high"] φ__law_is_int :=
  Fn1.of V.d__law_is_int V.g__law_is_int sc__law_is_int bi__law_is_int fun cdv A outer s H E G => (ss_one (s_ret (d_and (d_isi (b := .int) (by decide) (v_ 0) rfl V.b_isinstance rfl V.b_int bt_int) (d_and (d_not (d_isi (b := .bl) (by decide) (v_ 0) rfl V.b_isinstance rfl V.b_bool bt_bool)) (d_one (d_chain o_le o_le (v_ 1) (v_ 0) (v_ 2)))))))

def _law_bent_s0 : FS := (sIf (fTest (f1 (dIsi .tup) (fVar 1))) (sRet (fCa 2 φ__law_of (fCons (fVar 0) (fCons (fLst (fCons (fCl dList (fCons (fVar 1) fNil)) (fCons (fSl (fVar 1) (fPart (fC (.int 1))) fNoPart) (fCons (fSl (fVar 1) fNoPart (fPart (f1 dNeg (fC (.int 1))))) (fCons (f2 dAdd (fVar 1) (fSl (fVar 1) (fPart (f1 dNeg (fC (.int 1)))) fNoPart)) (fCons (f1 dBack (fVar 1)) (fCons (fTup fNil) (fCons (fC .non) fNil)))))))) fNil)))) sNil)
def _law_bent_s1 : FS := (sIf (fTest (f1 (dIsi .bl) (fVar 1))) (sRet (fCa 2 φ__law_of (fCons (fVar 0) (fCons (fLst (fCons (fNotV (fVar 1)) (fCons (fCl dInt (fCons (fVar 1) fNil)) (fCons (fC .non) fNil)))) fNil)))) sNil)
def _law_bent_s2 : FS := (sIf (fTest (f1 (dIsi .int) (fVar 1))) (sRet (fCa 2 φ__law_of (fCons (fVar 0) (fCons (fLst (fCons (f2 dAdd (fVar 1) (fC (.int 1))) (fCons (f2 dSub (fVar 1) (fC (.int 1))) (fCons (f2 dSub (f1 dNeg (fVar 1)) (fC (.int 1))) (fCons (fCl dStr (fCons (fVar 1) fNil)) (fCons (f2 dEq (fVar 1) (fC (.int 1))) (fCons (fC .non) (fCons (fTup (fCons (fVar 1) fNil)) (fCons (f2 dPow (fC (.int 10)) (fC (.int 9))) fNil))))))))) fNil)))) sNil)
def _law_bent_s3 : FS := (sIf (fTest (f1 (dIsi .str) (fVar 1))) (sRet (fCa 2 φ__law_of (fCons (fVar 0) (fCons (fLst (fCons (f2 dAdd (fVar 1) (fC (.str "a"))) (fCons (fSl (fVar 1) (fPart (fC (.int 1))) fNoPart) (fCons (fMt .str mUpper (fVar 1) fNil) (fCons (fC (.str "")) (fCons (fC .non) (fCons (fC (.int 0)) fNil))))))) fNil)))) sNil)
def _law_bent_s4 : FS := (sRet (fCa 1 φ__law_odd (fCons (fVar 0) fNil)))
def fs__law_bent (φr : FF) : FS := (sSeq (sIf (fAnd (fTest (f1 (dIsi .tup) (fVar 1))) (fAnd (fTest (f2 dNe (fVar 1) (fTup fNil))) (fTest (f2 dGt (fCa 2 φ__law_take (fCons (fVar 0) (fCons (fC (.int 5)) fNil))) (fC (.int 0)))))) (sSeq (sSet 2 (fCa 2 φ__law_take (fCons (fVar 0) (fCons (fCl dLen (fCons (fVar 1) fNil)) fNil)))) (sRet (f2 dAdd (f2 dAdd (fSl (fVar 1) fNoPart (fPart (fVar 2))) (fTup (fCons (fCa 2 φr (fCons (fVar 0) (fCons (f2 dIx (fVar 1) (fVar 2)) fNil))) fNil))) (fSl (fVar 1) (fPart (f2 dAdd (fVar 2) (fC (.int 1)))) fNoPart)))) sNil) (sSeq _law_bent_s0 (sSeq _law_bent_s1 (sSeq _law_bent_s2 (sSeq _law_bent_s3 _law_bent_s4)))))
def φ__law_bent : Nat → FF
  | 0 => fun _ _ => .stk
  | n + 1 => bodyF 3 (fs__law_bent (φ__law_bent n))
theorem sc__law_bent : FnScope ["pot", "value", "at"] ["pot", "value"] (defScope (top 36)) := ⟨rfl, rfl, rfl, by decide +kernel, rfl, by decide +kernel, by decide +kernel⟩
theorem bi__law_bent : BindOk "_law_bent" (top 36) ["pot", "value"] := fun _ _ _ _ _ _ us hl => match us, hl with | [_, _], _ => rfl
theorem ok__law_bent (V : Nv P w K mg base T) : ∀ n, Fn1 P w K mg base T (3 + n) "_law_bent" (top 36) ["pot", "value"] (φ__law_bent n)
  | 0 => Fn1.stk V.d__law_bent V.g__law_bent bi__law_bent
  | n + 1 => by
    have ih := ok__law_bent V n
    exact Fn1.of (k := 3 + n) V.d__law_bent V.g__law_bent sc__law_bent bi__law_bent fun cdv A outer s H E G => (ss_cons (s_if (L2.PW.pt (w_and (d_tval (d_isi (b := .tup) (by decide) (v_ 1) rfl V.b_isinstance rfl V.b_tuple bt_tuple)) (w_and (d_tcmp (o_ne (by exact G.hu65)) (v_ 1) (d_tup d_nil)) (w_and1 (d_tcmp o_gt (ca_ G ((ok__law_take V).up (by omega)) (d_cons (v_ 0) (d_cons d_int d_nil))) d_int))))) (ss_cons (st_ G 2 (ca_ G ((ok__law_take V).up (by omega)) (d_cons (v_ 0) (d_cons (d_callB c_len rfl V.b_len bt_len (d_cons (v_ 1) d_nil)) d_nil)))) (ss_one (s_ret (d_bin o_add (d_bin o_add (d_slice (v_ 1) p_none (p_some (v_ 2))) (d_tup (d_cons (ca_ G (ih.up (by omega)) (d_cons (v_ 0) (d_cons (d_ix (by exact G.hu) (v_ 1) (v_ 2)) d_nil))) d_nil))) (d_slice (v_ 1) (p_some (d_bin o_add (v_ 2) d_int)) p_none))))) ss_nil) (ss_cons (s_if (d_tval (d_isi (b := .tup) (by decide) (v_ 1) rfl V.b_isinstance rfl V.b_tuple bt_tuple)) (ss_one (s_ret (ca_ G ((ok__law_of V).up (by omega)) (d_cons (v_ 0) (d_cons (d_lst (d_cons (d_callTy c_list rfl V.b_list bt_list (d_cons (v_ 1) d_nil)) (d_cons (d_slice (v_ 1) (p_some d_int) p_none) (d_cons (d_slice (v_ 1) p_none (p_some (d_neg d_int))) (d_cons (d_bin o_add (v_ 1) (d_slice (v_ 1) (p_some (d_neg d_int)) p_none)) (d_cons (d_back (v_ 1)) (d_cons (d_tup d_nil) (d_cons d_non d_nil)))))))) d_nil))))) ss_nil) (ss_cons (s_if (d_tval (d_isi (b := .bl) (by decide) (v_ 1) rfl V.b_isinstance rfl V.b_bool bt_bool)) (ss_one (s_ret (ca_ G ((ok__law_of V).up (by omega)) (d_cons (v_ 0) (d_cons (d_lst (d_cons (d_not (v_ 1)) (d_cons (d_callTy c_int rfl V.b_int bt_int (d_cons (v_ 1) d_nil)) (d_cons d_non d_nil)))) d_nil))))) ss_nil) (ss_cons (s_if (d_tval (d_isi (b := .int) (by decide) (v_ 1) rfl V.b_isinstance rfl V.b_int bt_int)) (ss_one (s_ret (ca_ G ((ok__law_of V).up (by omega)) (d_cons (v_ 0) (d_cons (d_lst (d_cons (d_bin o_add (v_ 1) d_int) (d_cons (d_bin o_sub (v_ 1) d_int) (d_cons (d_bin o_sub (d_neg (v_ 1)) d_int) (d_cons (d_callTy c_str rfl V.b_str bt_str (d_cons (v_ 1) d_nil)) (d_cons (d_cmp (o_eq (by exact G.hu65)) (v_ 1) d_int) (d_cons d_non (d_cons (d_tup (d_cons (v_ 1) d_nil)) (d_cons (d_bin o_pow d_int d_int) d_nil))))))))) d_nil))))) ss_nil) (ss_cons (s_if (d_tval (d_isi (b := .str) (by decide) (v_ 1) rfl V.b_isinstance rfl V.b_str bt_str)) (ss_one (s_ret (ca_ G ((ok__law_of V).up (by omega)) (d_cons (v_ 0) (d_cons (d_lst (d_cons (d_bin o_add (v_ 1) d_str) (d_cons (d_slice (v_ 1) (p_some d_int) p_none) (d_cons (d_upper (v_ 1)) (d_cons d_str (d_cons d_non (d_cons d_int d_nil))))))) d_nil))))) ss_nil) (ss_one (s_ret (ca_ G ((ok__law_odd V).up (by omega)) (d_cons (v_ 0) d_nil)))))))))

def fs__law_is_bool : FS := (sRet (fAndV (f1 (dIsi .bl) (fVar 0)) (f2 dEq (fVar 0) (fVar 1))))
def φ__law_is_bool : FF := bodyF 2 fs__law_is_bool
theorem sc__law_is_bool : FnScope ["told", "due"] ["told", "due"] (defScope (top 37)) := ⟨rfl, rfl, rfl, by decide +kernel, rfl, by decide +kernel, by decide +kernel⟩
theorem bi__law_is_bool : BindOk "_law_is_bool" (top 37) ["told", "due"] := fun _ _ _ _ _ _ us hl => match us, hl with | [_, _], _ => rfl
theorem ok__law_is_bool (V : Nv P w K mg base T) : Fn1 P w K mg base T 1 "_law_is_bool" (top 37) ["told", "due"] φ__law_is_bool :=
  Fn1.of V.d__law_is_bool V.g__law_is_bool sc__law_is_bool bi__law_is_bool fun cdv A outer s H E G => (ss_one (s_ret (d_and (d_isi (b := .bl) (by decide) (v_ 0) rfl V.b_isinstance rfl V.b_bool bt_bool) (d_one (d_cmp (o_eq (by exact G.hu65)) (v_ 0) (v_ 1))))))

def fs__law_series : FS := (sSeq (sSet 2 (fCa 2 φ__law_of (fCons (fVar 0) (fCons (fLst (fCons (fC (.int 3)) (fCons (fC (.int 10)) (fCons (fC (.int 2001)) fNil)))) fNil)))) (sRet (fCl dTuple (fCons (fLc (fRg itRg1 (fCons (f2 dAdd (fC (.int 1)) (fCa 2 φ__law_take (fCons (fVar 0) (fCons (fVar 1) fNil)))) fNil)) (gN 3) fYes (f2 dSub (fCl dInt (fCons (fCa 2 φ__law_take (fCons (fVar 0) (fCons (fVar 2) fNil))) fNil)) (f2 dFdiv (fVar 2) (fC (.int 2)))) [3]) fNil))))
def φ__law_series : FF := bodyF 4 fs__law_series
theorem sc__law_series : FnScope ["pot", "most", "upto", "place"] ["pot", "most"] (defScope (top 38)) := ⟨rfl, rfl, rfl, by decide +kernel, rfl, by decide +kernel, by decide +kernel⟩
theorem bi__law_series : BindOk "_law_series" (top 38) ["pot", "most"] := fun _ _ _ _ _ _ us hl => match us, hl with | [_, _], _ => rfl
theorem ok__law_series (V : Nv P w K mg base T) : Fn1 P w K mg base T 3 "_law_series" (top 38) ["pot", "most"] φ__law_series :=
  Fn1.of V.d__law_series V.g__law_series sc__law_series bi__law_series fun cdv A outer s H E G => (ss_cons (st_ G 2 (ca_ G ((ok__law_of V).up) (d_cons (v_ 0) (d_cons (d_lst (d_cons d_int (d_cons d_int (d_cons d_int d_nil)))) d_nil)))) (ss_one (s_ret (d_callTy c_tuple rfl V.b_tuple bt_tuple (d_cons (d_lc (own := [("place", 3)]) rfl (by exact G.nd) (i_range1 rfl V.b_range (d_cons (d_bin o_add d_int (ca_ G ((ok__law_take V).up) (d_cons (v_ 0) (d_cons (v_ 1) d_nil)))) d_nil)) (blkOk_by rfl) (fun s1 H1 C1 cl1 fp1 => (n_ (by exact G.nd) 3)) (fun s1 H1 C1 cl1 fp1 => ts_none) (fun s1 H1 C1 cl1 fp1 => (d_bin o_sub (d_callTy c_int rfl V.b_int bt_int (d_cons (ca_ (Good.blk G s1 H1 _ _ fp1) ((ok__law_take V).up) (d_cons (v_ 0) (d_cons (v_ 2) d_nil))) d_nil)) (d_bin o_fdiv (v_ 2) d_int))) (by decide)) d_nil)))))

def _law_walks_b0 : FS := (sIf (fAnd (fTest (f2 dLt (f2 dIx (fVar 7) (fC (.int 0))) (fCl dLen (fCons (fVar 0) fNil)))) (fTest (f2 dLt (f2 dIx (fVar 7) (fC (.int 1))) (fCl dLen (fCons (fVar 1) fNil))))) (sExp (fMt .lst mApp (fVar 2) (fCons (f2 dAdd (fVar 4) (fTup (fCons (fVar 7) fNil))) fNil))) sNil)
def _law_walks_l0 : FS := (sFor (fIt (fTup (fCons (fTup (fCons (f2 dAdd (fVar 5) (fC (.int 1))) (fCons (fVar 6) fNil))) (fCons (fTup (fCons (fVar 5) (fCons (f2 dAdd (fVar 6) (fC (.int 1))) fNil))) (fCons (fTup (fCons (f2 dAdd (fVar 5) (fC (.int 1))) (fCons (f2 dAdd (fVar 6) (fC (.int 1))) fNil))) fNil))))) (gN 7) _law_walks_b0)
def _law_walks_w0 : FT := (fTest (f2 dNe (fVar 2) (fLst fNil)))
def _law_walks_b1 : FS := (sSeq (sSet 4 (fMt .lst mPop (fVar 2) fNil)) (sSeq (sAsg (f2 dIx (fVar 4) (f1 dNeg (fC (.int 1)))) (gT 2 (gsC (gN 5) (gsC (gN 6) gsN)))) (sSeq (sIf (fTest (f2 dEq (fTup (fCons (fVar 5) (fCons (fVar 6) fNil))) (fTup (fCons (f2 dSub (fCl dLen (fCons (fVar 0) fNil)) (fC (.int 1))) (fCons (f2 dSub (fCl dLen (fCons (fVar 1) fNil)) (fC (.int 1))) fNil))))) (sExp (fMt .lst mApp (fVar 3) (fCons (fVar 4) fNil))) sNil) _law_walks_l0)))
def _law_walks_l1 : FS := (sWh _law_walks_w0 _law_walks_b1)
def fs__law_walks : FS := (sSeq (sPar 2 3 (fCons (fLstM (fCons (fTup (fCons (fTup (fCons (fC (.int 0)) (fCons (fC (.int 0)) fNil))) fNil)) fNil)) (fCons (fLstM fNil) fNil))) (sSeq _law_walks_l1 (sRet (fVar 3))))
def φ__law_walks : FF := bodyF 8 fs__law_walks
theorem sc__law_walks : FnScope ["one", "other", "line", "found", "walk", "mine", "its", "later"] ["one", "other"] (defScope (top 39)) := ⟨rfl, rfl, rfl, by decide +kernel, rfl, by decide +kernel, by decide +kernel⟩
theorem bi__law_walks : BindOk "_law_walks" (top 39) ["one", "other"] := fun _ _ _ _ _ _ us hl => match us, hl with | [_, _], _ => rfl
theorem ok__law_walks (V : Nv P w K mg base T) : Fn1 P w K mg base T 1 "_law_walks" (top 39) ["one", "other"] φ__law_walks :=
  Fn1.of V.d__law_walks V.g__law_walks sc__law_walks bi__law_walks fun cdv A outer s H E G => (ss_cons (s_par rfl G.nd rfl rfl (by decide) rfl rfl (d_cons (d_lstM (d_cons (d_tup (d_cons (d_tup (d_cons d_int (d_cons d_int d_nil))) d_nil)) d_nil)) (d_cons (d_lstM d_nil) d_nil)) rfl) (ss_cons (s_while owns_bx (d_tcmp (o_ne (by exact G.hu65)) (v_ 2) (d_lst d_nil)) (ss_cons (st_ G 4 (d_pop (v_ 2))) (ss_cons (s_asg (d_ix (by exact G.hu) (v_ 4) (d_neg d_int)) (t_tup rfl (ts_cons (n_ (by exact G.nd) 5) (ts_cons (n_ (by exact G.nd) 6) ts_nil)))) (ss_cons (s_if (d_tcmp (o_eq (by exact G.hu65)) (d_tup (d_cons (v_ 5) (d_cons (v_ 6) d_nil))) (d_tup (d_cons (d_bin o_sub (d_callB c_len rfl V.b_len bt_len (d_cons (v_ 0) d_nil)) d_int) (d_cons (d_bin o_sub (d_callB c_len rfl V.b_len bt_len (d_cons (v_ 1) d_nil)) d_int) d_nil)))) (ss_one (s_exp (d_append (v_ 3) (d_cons (v_ 4) d_nil)))) ss_nil) (ss_one (s_for owns_bx rfl (i_any (d_tup (d_cons (d_tup (d_cons (d_bin o_add (v_ 5) d_int) (d_cons (v_ 6) d_nil))) (d_cons (d_tup (d_cons (v_ 5) (d_cons (d_bin o_add (v_ 6) d_int) d_nil))) (d_cons (d_tup (d_cons (d_bin o_add (v_ 5) d_int) (d_cons (d_bin o_add (v_ 6) d_int) d_nil))) d_nil))))) (n_ (by exact G.nd) 7) (ss_one (s_if (L2.PW.pt (w_and (d_tcmp o_lt (d_ix (by exact G.hu) (v_ 7) d_int) (d_callB c_len rfl V.b_len bt_len (d_cons (v_ 0) d_nil))) (w_and1 (d_tcmp o_lt (d_ix (by exact G.hu) (v_ 7) d_int) (d_callB c_len rfl V.b_len bt_len (d_cons (v_ 1) d_nil)))))) (ss_one (s_exp (d_append (v_ 2) (d_cons (d_bin o_add (v_ 4) (d_tup (d_cons (v_ 7) d_nil))) d_nil)))) ss_nil)))))))) (ss_one (s_ret (v_ 3)))))

def _law_walk_cost_e0 : FE := (fCl dAbs (fCons (f2 dSub (f2 dIx (fVar 0) (fVar 3)) (f2 dIx (fVar 1) (fVar 4))) fNil))
def _law_walk_cost_c0 : FE := (fLc (fIt (fVar 2)) (gT 2 (gsC (gN 3) (gsC (gN 4) gsN))) fYes _law_walk_cost_e0 [3, 4])
def fs__law_walk_cost : FS := (sRet (fCl dSum (fCons _law_walk_cost_c0 fNil)))
def φ__law_walk_cost : FF := bodyF 5 fs__law_walk_cost
theorem sc__law_walk_cost : FnScope ["one", "other", "walk", "mine", "its"] ["one", "other", "walk"] (defScope (top 40)) := ⟨rfl, rfl, rfl, by decide +kernel, rfl, by decide +kernel, by decide +kernel⟩
theorem bi__law_walk_cost : BindOk "_law_walk_cost" (top 40) ["one", "other", "walk"] := fun _ _ _ _ _ _ us hl => match us, hl with | [_, _, _], _ => rfl
theorem ok__law_walk_cost (V : Nv P w K mg base T) : Fn1 P w K mg base T 1 "_law_walk_cost" (top 40) ["one", "other", "walk"] φ__law_walk_cost :=
  Fn1.of V.d__law_walk_cost V.g__law_walk_cost sc__law_walk_cost bi__law_walk_cost fun cdv A outer s H E G => (ss_one (s_ret (d_callB (c_sum rfl) rfl V.b_sum bt_sum (d_cons (d_lc (own := [("mine", 3), ("its", 4)]) rfl (by exact G.nd) (i_any (v_ 2)) (blkOk_by rfl) (fun s1 H1 C1 cl1 fp1 => (t_tup rfl (ts_cons (n_ (by exact G.nd) 3) (ts_cons (n_ (by exact G.nd) 4) ts_nil)))) (fun s1 H1 C1 cl1 fp1 => ts_none) (fun s1 H1 C1 cl1 fp1 => (d_callB c_abs rfl V.b_abs bt_abs (d_cons (d_bin o_sub (d_ix (by exact G.hu) (v_ 0) (v_ 3)) (d_ix (by exact G.hu) (v_ 1) (v_ 4))) d_nil))) (by decide)) d_nil))))

def _law_is_due_s0 : FS := (sIf (fOr (fNot (fTest (f1 (dIsi .tup) (fVar 4)))) (fOr (fTest (f2 dNe (fCl dLen (fCons (fVar 4) fNil)) (fC (.int 4)))) (fOr (fNot (fTest (f1 (dIsi .str) (f2 dIx (fVar 4) (fC (.int 0)))))) (fTest (f2 dNe (f2 dIx (fVar 4) (fC (.int 0))) (fC (.str "walk"))))))) (sRet (fC (.bl false))) sNil)
def _law_is_due_e0 : FE := (fCl dRepr (fCons (fVar 5) fNil))
def _law_is_due_c0 : FE := (fLc (fIt (fVar 2)) (gN 5) fYes _law_is_due_e0 [5])
def _law_is_due_s1 : FS := (sIf (fOr (fNot (fTest (fCa 3 φ__law_is_int (fCons (f2 dIx (fVar 4) (fC (.int 1))) (fCons (fVar 3) (fCons (fVar 3) fNil)))))) (fTest (f2 dNotIn (fCl dRepr (fCons (f2 dIx (fVar 4) (fC (.int 2))) fNil)) _law_is_due_c0))) (sRet (fC (.bl false))) sNil)
def _law_is_due_s2 : FS := (sIf (fOr (fTest (f2 dNe (fCa 3 φ__law_walk_cost (fCons (fVar 0) (fCons (fVar 1) (fCons (f2 dIx (fVar 4) (fC (.int 2))) fNil)))) (fVar 3))) (fOr (fNot (fTest (f1 (dIsi .tup) (f2 dIx (fVar 4) (fC (.int 3)))))) (fTest (f2 dNe (fCl dLen (fCons (f2 dIx (fVar 4) (fC (.int 3))) fNil)) (fCl dLen (fCons (fVar 0) fNil)))))) (sRet (fC (.bl false))) sNil)
def _law_is_due_e1 : FE := (fCa 3 φ__law_is_int (fCons (fVar 7) (fCons (fC (.int 0)) (fCons (f2 dPow (fC (.int 10)) (fC (.int 9))) fNil))))
def _law_is_due_c1 : FE := (fLc (fIt (fVar 6)) (gN 7) fYes _law_is_due_e1 [7])
def _law_is_due_b0 : FS := (sSeq (sIf (fOr (fNot (fTest (f1 (dIsi .tup) (fVar 6)))) (fTest (f2 dNe (fCl dLen (fCons (fVar 6) fNil)) (fCl dLen (fCons (fVar 1) fNil))))) (sRet (fC (.bl false))) sNil) (sIf (fNot (fTest (fCl dAll (fCons _law_is_due_c1 fNil)))) (sRet (fC (.bl false))) sNil))
def _law_is_due_l0 : FS := (sFor (fIt (f2 dIx (fVar 4) (fC (.int 3)))) (gN 6) _law_is_due_b0)
def _law_is_due_s3 : FS := _law_is_due_l0
def _law_is_due_t0 : FT := (fAnd (fTest (f2 dLt (fVar 13) (fCl dLen (fCons (fVar 0) fNil)))) (fTest (f2 dLt (fVar 14) (fCl dLen (fCons (fVar 1) fNil)))))
def _law_is_due_e2 : FE := (f2 dIx (f2 dIx (f2 dIx (fVar 4) (fC (.int 3))) (fVar 13)) (fVar 14))
def _law_is_due_c2 : FE := (fLc (fIt (fVar 11)) (gT 2 (gsC (gN 13) (gsC (gN 14) gsN))) _law_is_due_t0 _law_is_due_e2 [13, 14])
def _law_is_due_b1 : FS := (sSeq (sSet 11 (fLst (fCons (fTup (fCons (f2 dAdd (fVar 8) (fC (.int 1))) (fCons (fVar 9) fNil))) (fCons (fTup (fCons (fVar 8) (fCons (f2 dAdd (fVar 9) (fC (.int 1))) fNil))) (fCons (fTup (fCons (f2 dAdd (fVar 8) (fC (.int 1))) (fCons (f2 dAdd (fVar 9) (fC (.int 1))) fNil))) fNil))))) (sSeq (sSet 12 _law_is_due_c2) (sIf (fTest (f2 dGt (fVar 10) (f2 dAdd (fCl dAbs (fCons (f2 dSub (f2 dIx (fVar 0) (fVar 8)) (f2 dIx (fVar 1) (fVar 9))) fNil)) (fCl dMin (fCons (f2 dAdd (fVar 12) (fIf (fTest (f2 dEq (fVar 12) (fLst fNil))) (fLst (fCons (fC (.int 0)) fNil)) (fLst fNil))) fNil))))) (sRet (fC (.bl false))) sNil)))
def _law_is_due_l1 : FS := (sFor (fEnum (fCons (fVar 6) fNil)) (gT 2 (gsC (gN 9) (gsC (gN 10) gsN))) _law_is_due_b1)
def _law_is_due_b2 : FS := _law_is_due_l1
def _law_is_due_l2 : FS := (sFor (fEnum (fCons (f2 dIx (fVar 4) (fC (.int 3))) fNil)) (gT 2 (gsC (gN 8) (gsC (gN 6) gsN))) _law_is_due_b2)
def _law_is_due_s4 : FS := _law_is_due_l2
def _law_is_due_s5 : FS := (sRet (f2 dEq (f2 dIx (f2 dIx (f2 dIx (fVar 4) (fC (.int 3))) (fC (.int 0))) (fC (.int 0))) (fVar 3)))
def fs__law_is_due : FS := (sSeq _law_is_due_s0 (sSeq _law_is_due_s1 (sSeq _law_is_due_s2 (sSeq _law_is_due_s3 (sSeq _law_is_due_s4 _law_is_due_s5)))))
def φ__law_is_due : FF := bodyF 15 fs__law_is_due
theorem sc__law_is_due : FnScope ["one", "other", "walks", "least", "value", "walk", "row", "part", "mine", "its", "label", "some", "rests", "x", "y"] ["one", "other", "walks", "least", "value"] (defScope (top 41)) := ⟨rfl, rfl, rfl, by decide +kernel, rfl, by decide +kernel, by decide +kernel⟩
theorem bi__law_is_due : BindOk "_law_is_due" (top 41) ["one", "other", "walks", "least", "value"] := fun _ _ _ _ _ _ us hl => match us, hl with | [_, _, _, _, _], _ => rfl
theorem ok__law_is_due (V : Nv P w K mg base T) : Fn1 P w K mg base T 2 "_law_is_due" (top 41) ["one", "other", "walks", "least", "value"] φ__law_is_due :=
  Fn1.of V.d__law_is_due V.g__law_is_due sc__law_is_due bi__law_is_due fun cdv A outer s H E G => (ss_cons (s_if (L2.PW.pt (w_or (d_tnot (d_tval (d_isi (b := .tup) (by decide) (v_ 4) rfl V.b_isinstance rfl V.b_tuple bt_tuple))) (w_or (d_tcmp (o_ne (by exact G.hu65)) (d_callB c_len rfl V.b_len bt_len (d_cons (v_ 4) d_nil)) d_int) (w_or (d_tnot (d_tval (d_isi (b := .str) (by decide) (d_ix (by exact G.hu) (v_ 4) d_int) rfl V.b_isinstance rfl V.b_str bt_str))) (w_or1 (d_tcmp (o_ne (by exact G.hu65)) (d_ix (by exact G.hu) (v_ 4) d_int) d_str)))))) (ss_one (s_ret d_bl)) ss_nil) (ss_cons (s_if (L2.PW.pt (w_or (d_tnot (d_tval (ca_ G ((ok__law_is_int V).up) (d_cons (d_ix (by exact G.hu) (v_ 4) d_int) (d_cons (v_ 3) (d_cons (v_ 3) d_nil)))))) (w_or1 (d_tcmp (o_notIn (by exact G.hu)) (d_callB (c_repr (by exact G.gd) (by exact G.hu)) rfl V.b_repr bt_repr (d_cons (d_ix (by exact G.hu) (v_ 4) d_int) d_nil)) (d_lc (own := [("walk", 5)]) rfl (by exact G.nd) (i_any (v_ 2)) (blkOk_by rfl) (fun s1 H1 C1 cl1 fp1 => (n_ (by exact G.nd) 5)) (fun s1 H1 C1 cl1 fp1 => ts_none) (fun s1 H1 C1 cl1 fp1 => (d_callB (c_repr (by exact G.gd) (by exact G.hu)) rfl V.b_repr bt_repr (d_cons (v_ 5) d_nil))) (by decide)))))) (ss_one (s_ret d_bl)) ss_nil) (ss_cons (s_if (L2.PW.pt (w_or (d_tcmp (o_ne (by exact G.hu65)) (ca_ G ((ok__law_walk_cost V).up) (d_cons (v_ 0) (d_cons (v_ 1) (d_cons (d_ix (by exact G.hu) (v_ 4) d_int) d_nil)))) (v_ 3)) (w_or (d_tnot (d_tval (d_isi (b := .tup) (by decide) (d_ix (by exact G.hu) (v_ 4) d_int) rfl V.b_isinstance rfl V.b_tuple bt_tuple))) (w_or1 (d_tcmp (o_ne (by exact G.hu65)) (d_callB c_len rfl V.b_len bt_len (d_cons (d_ix (by exact G.hu) (v_ 4) d_int) d_nil)) (d_callB c_len rfl V.b_len bt_len (d_cons (v_ 0) d_nil))))))) (ss_one (s_ret d_bl)) ss_nil) (ss_cons (s_for owns_bx rfl (i_any (d_ix (by exact G.hu) (v_ 4) d_int)) (n_ (by exact G.nd) 6) (ss_cons (s_if (L2.PW.pt (w_or (d_tnot (d_tval (d_isi (b := .tup) (by decide) (v_ 6) rfl V.b_isinstance rfl V.b_tuple bt_tuple))) (w_or1 (d_tcmp (o_ne (by exact G.hu65)) (d_callB c_len rfl V.b_len bt_len (d_cons (v_ 6) d_nil)) (d_callB c_len rfl V.b_len bt_len (d_cons (v_ 1) d_nil)))))) (ss_one (s_ret d_bl)) ss_nil) (ss_one (s_if (d_tnot (d_tval (d_callB (c_all rfl) rfl V.b_all bt_all (d_cons (d_lc (own := [("part", 7)]) rfl (by exact G.nd) (i_any (v_ 6)) (blkOk_by rfl) (fun s1 H1 C1 cl1 fp1 => (n_ (by exact G.nd) 7)) (fun s1 H1 C1 cl1 fp1 => ts_none) (fun s1 H1 C1 cl1 fp1 => (ca_ (Good.blk G s1 H1 _ _ fp1) ((ok__law_is_int V).up) (d_cons (v_ 7) (d_cons d_int (d_cons (d_bin o_pow d_int d_int) d_nil))))) (by decide)) d_nil)))) (ss_one (s_ret d_bl)) ss_nil)))) (ss_cons (s_for owns_bx rfl (i_enum rfl V.b_enumerate (d_cons (d_ix (by exact G.hu) (v_ 4) d_int) d_nil)) (t_tup rfl (ts_cons (n_ (by exact G.nd) 8) (ts_cons (n_ (by exact G.nd) 6) ts_nil))) (ss_one (s_for owns_bx rfl (i_enum rfl V.b_enumerate (d_cons (v_ 6) d_nil)) (t_tup rfl (ts_cons (n_ (by exact G.nd) 9) (ts_cons (n_ (by exact G.nd) 10) ts_nil))) (ss_cons (st_ G 11 (d_lst (d_cons (d_tup (d_cons (d_bin o_add (v_ 8) d_int) (d_cons (v_ 9) d_nil))) (d_cons (d_tup (d_cons (v_ 8) (d_cons (d_bin o_add (v_ 9) d_int) d_nil))) (d_cons (d_tup (d_cons (d_bin o_add (v_ 8) d_int) (d_cons (d_bin o_add (v_ 9) d_int) d_nil))) d_nil))))) (ss_cons (s_setLc (i := 12) (own := [("x", 13), ("y", 14)]) rfl (by exact G.nd) rfl rfl (sw_true rfl rfl rfl (by decide +kernel)) (i_any (v_ 11)) (blkOk_by rfl) (fun s1 H1 C1 cl1 fp1 => (t_tup rfl (ts_cons (n_ (by exact G.nd) 13) (ts_cons (n_ (by exact G.nd) 14) ts_nil)))) (fun s1 H1 C1 cl1 fp1 => (ts_one (L2.PW.pt (w_and (d_tcmp o_lt (v_ 13) (d_callB c_len rfl V.b_len bt_len (d_cons (v_ 0) d_nil))) (w_and1 (d_tcmp o_lt (v_ 14) (d_callB c_len rfl V.b_len bt_len (d_cons (v_ 1) d_nil)))))))) (fun s1 H1 C1 cl1 fp1 => (d_ix (by exact G.hu) (d_ix (by exact G.hu) (d_ix (by exact G.hu) (v_ 4) d_int) (v_ 13)) (v_ 14))) (by decide)) (ss_one (s_if (d_tcmp o_gt (v_ 10) (d_bin o_add (d_callB c_abs rfl V.b_abs bt_abs (d_cons (d_bin o_sub (d_ix (by exact G.hu) (v_ 0) (v_ 8)) (d_ix (by exact G.hu) (v_ 1) (v_ 9))) d_nil)) (d_callB (c_min rfl) rfl V.b_min bt_min (d_cons (d_bin o_add (v_ 12) (d_if (d_tcmp (o_eq (by exact G.hu65)) (v_ 12) (d_lst d_nil)) (d_lst (d_cons d_int d_nil)) (d_lst d_nil))) d_nil)))) (ss_one (s_ret d_bl)) ss_nil))))))) (ss_one (s_ret (d_cmp (o_eq (by exact G.hu65)) (d_ix (by exact G.hu) (d_ix (by exact G.hu) (d_ix (by exact G.hu) (v_ 4) d_int) d_int) d_int) (v_ 3)))))))))

end
end K71
set_option Elab.async false
set_option linter.all false
set_option maxRecDepth 100000
set_option maxHeartbeats 0
namespace K71
open PySem PySem.Spec PyProof.Rows L2 Dn
noncomputable section
variable {P : Program} {w : World} {K : PySem.W.Frag} {mg : Str → Option Value} {base : Heap} {T : List (Addr × Str)}
def _law_far_e0 : FE := (fCl dMax (fCons (fC (.int 0)) (fCons (f2 dSub (fVar 3) (f2 dSub (fVar 5) (fVar 6))) (fCons (f2 dSub (f2 dSub (fVar 5) (fVar 6)) (fVar 4)) fNil))))
def _law_far_c0 : FE := (fLc (fIt (fVar 2)) (gT 2 (gsC (gN 5) (gsC (gN 6) gsN))) fYes _law_far_e0 [5, 6])
def fs__law_far : FS := (sSeq (sAsg (fTup (fCons (fCl dMin (fCons (fC (.int 0)) (fCons (f2 dSub (fCl dLen (fCons (fVar 0) fNil)) (fCl dLen (fCons (fVar 1) fNil))) fNil))) (fCons (fCl dMax (fCons (fC (.int 0)) (fCons (f2 dSub (fCl dLen (fCons (fVar 0) fNil)) (fCl dLen (fCons (fVar 1) fNil))) fNil))) fNil))) (gT 2 (gsC (gN 3) (gsC (gN 4) gsN)))) (sRet (fCl dMax (fCons _law_far_c0 fNil))))
def φ__law_far : FF := bodyF 7 fs__law_far
theorem sc__law_far : FnScope ["one", "other", "walk", "low", "high", "mine", "its"] ["one", "other", "walk"] (defScope (top 42)) := ⟨rfl, rfl, rfl, by decide +kernel, rfl, by decide +kernel, by decide +kernel⟩
theorem bi__law_far : BindOk "_law_far" (top 42) ["one", "other", "walk"] := fun _ _ _ _ _ _ us hl => match us, hl with | [_, _, _], _ => rfl
theorem ok__law_far (V : Nv P w K mg base T) : Fn1 P w K mg base T 1 "_law_far" (top 42) ["one", "other", "walk"] φ__law_far :=
  Fn1.of V.d__law_far V.g__law_far sc__law_far bi__law_far fun cdv A outer s H E G => (ss_cons (s_asg (d_tup (d_cons (d_callB (c_min rfl) rfl V.b_min bt_min (d_cons d_int (d_cons (d_bin o_sub (d_callB c_len rfl V.b_len bt_len (d_cons (v_ 0) d_nil)) (d_callB c_len rfl V.b_len bt_len (d_cons (v_ 1) d_nil))) d_nil))) (d_cons (d_callB (c_max rfl) rfl V.b_max bt_max (d_cons d_int (d_cons (d_bin o_sub (d_callB c_len rfl V.b_len bt_len (d_cons (v_ 0) d_nil)) (d_callB c_len rfl V.b_len bt_len (d_cons (v_ 1) d_nil))) d_nil))) d_nil))) (t_tup rfl (ts_cons (n_ (by exact G.nd) 3) (ts_cons (n_ (by exact G.nd) 4) ts_nil)))) (ss_one (s_ret (d_callB (c_max rfl) rfl V.b_max bt_max (d_cons (d_lc (own := [("mine", 5), ("its", 6)]) rfl (by exact G.nd) (i_any (v_ 2)) (blkOk_by rfl) (fun s1 H1 C1 cl1 fp1 => (t_tup rfl (ts_cons (n_ (by exact G.nd) 5) (ts_cons (n_ (by exact G.nd) 6) ts_nil)))) (fun s1 H1 C1 cl1 fp1 => ts_none) (fun s1 H1 C1 cl1 fp1 => (d_callB (c_max rfl) rfl V.b_max bt_max (d_cons d_int (d_cons (d_bin o_sub (v_ 3) (d_bin o_sub (v_ 5) (v_ 6))) (d_cons (d_bin o_sub (d_bin o_sub (v_ 5) (v_ 6)) (v_ 4)) d_nil))))) (by decide)) d_nil)))))

def _law_is_series_e0 : FE := (fCa 3 φ__law_is_int (fCons (fVar 1) (fCons (f1 dNeg (f2 dPow (fC (.int 10)) (fC (.int 6)))) (fCons (f2 dPow (fC (.int 10)) (fC (.int 6))) fNil))))
def _law_is_series_c0 : FE := (fLc (fIt (fVar 0)) (gN 1) fYes _law_is_series_e0 [1])
def fs__law_is_series : FS := (sSeq (sIf (fOr (fNot (fTest (f1 (dIsi .tup) (fVar 0)))) (fNot (fTest (fChain dLe dLe (fC (.int 1)) (fCl dLen (fCons (fVar 0) fNil)) (fC (.int 40)))))) (sRet (fC (.bl false))) sNil) (sRet (fCl dAll (fCons _law_is_series_c0 fNil))))
def φ__law_is_series : FF := bodyF 2 fs__law_is_series
theorem sc__law_is_series : FnScope ["value", "one"] ["value"] (defScope (top 43)) := ⟨rfl, rfl, rfl, by decide +kernel, rfl, by decide +kernel, by decide +kernel⟩
theorem bi__law_is_series : BindOk "_law_is_series" (top 43) ["value"] := fun _ _ _ _ _ _ us hl => match us, hl with | [_], _ => rfl
theorem ok__law_is_series (V : Nv P w K mg base T) : Fn1 P w K mg base T 2 "_law_is_series" (top 43) ["value"] φ__law_is_series :=
  Fn1.of V.d__law_is_series V.g__law_is_series sc__law_is_series bi__law_is_series fun cdv A outer s H E G => (ss_cons (s_if (L2.PW.pt (w_or (d_tnot (d_tval (d_isi (b := .tup) (by decide) (v_ 0) rfl V.b_isinstance rfl V.b_tuple bt_tuple))) (w_or1 (d_tnot (d_tchain o_le o_le d_int (d_callB c_len rfl V.b_len bt_len (d_cons (v_ 0) d_nil)) d_int))))) (ss_one (s_ret d_bl)) ss_nil) (ss_one (s_ret (d_callB (c_all rfl) rfl V.b_all bt_all (d_cons (d_lc (own := [("one", 1)]) rfl (by exact G.nd) (i_any (v_ 0)) (blkOk_by rfl) (fun s1 H1 C1 cl1 fp1 => (n_ (by exact G.nd) 1)) (fun s1 H1 C1 cl1 fp1 => ts_none) (fun s1 H1 C1 cl1 fp1 => (ca_ (Good.blk G s1 H1 _ _ fp1) ((ok__law_is_int V).up) (d_cons (v_ 1) (d_cons (d_neg (d_bin o_pow d_int d_int)) (d_cons (d_bin o_pow d_int d_int) d_nil))))) (by decide)) d_nil)))))

def _law_are_refused_s0 : FS := (sSet 3 (fCa 2 φ__law_of (fCons (fVar 0) (fCons (fLst (fCons (fC .non) (fCons (fTup fNil) (fCons (fLst (fCons (fC (.int 1)) fNil)) (fCons (fTup (fCons (fC (.bl true)) fNil)) (fCons (fTup (fCons (f2 dAdd (f2 dPow (fC (.int 10)) (fC (.int 6))) (fC (.int 1))) fNil)) (fCons (f2 dMul (fTup (fCons (fC (.int 1)) fNil)) (fC (.int 41))) (fCons (fC (.int 5)) (fCons (fTup (fCons (fC (.str "1")) fNil)) fNil))))))))) fNil))))
def _law_are_refused_e0 : FE := (fAndV (f1 (dIsx cs "BadTold") (fVar 7)) (f2 dEq (fCl dRepr (fCons (fVal cs (fVar 7)) fNil)) (fCl dRepr (fCons (fVar 3) fNil))))
def _law_are_refused_c0 : FE := (fLc (fIt (fVar 5)) (gN 7) fYes _law_are_refused_e0 [7])
def _law_are_refused_s1 : FS := (sIf (fNot (fTest (fCl dAll (fCons _law_are_refused_c0 fNil)))) (sRet (fC (.bl false))) sNil)
def _law_are_refused_s2 : FS := (sSet 3 (fCa 2 φ__law_of (fCons (fVar 0) (fCons (fLst (fCons (fC .non) (fCons (fTup fNil) (fCons (fTup (fCons (fTup (fCons (fC (.int 0)) (fCons (fC (.int 0)) fNil))) (fCons (fTup (fCons (fC (.int 9)) (fCons (fC (.int 9)) fNil))) fNil))) (fCons (fLst (fCons (fTup (fCons (fC (.int 0)) (fCons (fC (.int 0)) fNil))) fNil)) (fCons (fTup (fCons (fTup (fCons (fC (.int 1)) (fCons (fC (.int 1)) fNil))) fNil)) (fCons (fC (.int 5)) fNil))))))) fNil))))
def _law_are_refused_s3 : FS := (sSet 5 (f2 dIx (fHeard cs (fCa 3 φ_cost_of_walk (fCons (fVar 1) (fCons (fVar 2) (fCons (fVar 3) fNil))))) (fC (.int 0))))
def _law_are_refused_s4 : FS := (sIf (fOr (fNot (fTest (f1 (dIsx cs "BadTold") (fVar 5)))) (fTest (f2 dNe (fCl dRepr (fCons (fVal cs (fVar 5)) fNil)) (fCl dRepr (fCons (fVar 3) fNil))))) (sRet (fC (.bl false))) sNil)
def _law_are_refused_s5 : FS := (sSet 3 (fCa 2 φ__law_of (fCons (fVar 0) (fCons (fLst (fCons (fC .non) (fCons (fC (.bl true)) (fCons (f1 dNeg (fC (.int 1))) (fCons (fC (.int 41)) (fCons (fC (.str "1")) fNil)))))) fNil))))
def _law_are_refused_s6 : FS := (sSet 5 (f2 dIx (fHeard cs (fCa 3 φ_least_walk_in_band (fCons (fVar 1) (fCons (fVar 2) (fCons (fVar 3) fNil))))) (fC (.int 0))))
def _law_are_refused_s7 : FS := (sRet (fAndV (f1 (dIsx cs "BadInt") (fVar 5)) (f2 dEq (fCl dRepr (fCons (fVal cs (fVar 5)) fNil)) (fCl dRepr (fCons (fVar 3) fNil)))))
def fs__law_are_refused : FS := (sSeq _law_are_refused_s0 (askStart 4 (fCa 3 φ_is_walk (fCons (fVar 3) (fCons (fVar 2) (fCons (fC .non) fNil)))) (askMore (fCa 3 φ_cost_of_walk (fCons (fVar 1) (fCons (fVar 3) (fCons (fC .non) fNil)))) (askMore (fCa 2 φ_least_walk (fCons (fVar 3) (fCons (fC .non) fNil))) (askMore (fCa 3 φ_shows_least_walk (fCons (fVar 1) (fCons (fVar 3) (fCons (fC .non) fNil)))) (askMore (fCa 3 φ_least_walk_in_band (fCons (fVar 3) (fCons (fC .non) (fCons (fC .non) fNil)))) (askMore (fCa 2 φ_how_many_walks (fCons (fVar 1) (fCons (fVar 3) fNil))) (askMore (fCa 2 φ_how_many_least (fCons (fVar 3) (fCons (fVar 2) fNil))) (askMore (fCa 2 φ_bound_of (fCons (fVar 1) (fCons (fVar 3) fNil))) (askEnd cs 5 (sSeq _law_are_refused_s1 (sSeq _law_are_refused_s2 (sSeq _law_are_refused_s3 (sSeq _law_are_refused_s4 (sSeq _law_are_refused_s5 (sSeq _law_are_refused_s6 _law_are_refused_s7))))))))))))))))
def φ__law_are_refused : FF := bodyF 8 fs__law_are_refused
theorem sc__law_are_refused : FnScope ["pot", "one", "other", "bad", "asks", "caught", "ask", "its"] ["pot", "one", "other"] (defScope (top 44)) := ⟨rfl, rfl, rfl, by decide +kernel, rfl, by decide +kernel, by decide +kernel⟩
theorem bi__law_are_refused : BindOk "_law_are_refused" (top 44) ["pot", "one", "other"] := fun _ _ _ _ _ _ us hl => match us, hl with | [_, _, _], _ => rfl
theorem ok__law_are_refused (V : Nv P w K mg base T) : Fn1 P w K mg base T 8 "_law_are_refused" (top 44) ["pot", "one", "other"] φ__law_are_refused :=
  Fn1.ofL V.l__law_are_refused V.g__law_are_refused sc__law_are_refused bi__law_are_refused fun c p A outer s H E LA G => (ss_cons (st_ G 3 (ca_ G ((ok__law_of V).up) (d_cons (v_ 0) (d_cons (d_lst (d_cons d_non (d_cons (d_tup d_nil) (d_cons (d_lst (d_cons d_int d_nil)) (d_cons (d_tup (d_cons d_bl d_nil)) (d_cons (d_tup (d_cons (d_bin o_add (d_bin o_pow d_int d_int) d_int) d_nil)) (d_cons (d_bin o_mul (d_tup (d_cons d_int d_nil)) d_int) (d_cons d_int (d_cons (d_tup (d_cons d_str d_nil)) d_nil))))))))) d_nil)))) (ask_start G LA (ask_more G LA (ask_more G LA (ask_more G LA (ask_more G LA (ask_more G LA (ask_more G LA (ask_more G LA (ask_end (ia := 4) (ik := 6) (ic := 5) (own := [("ask", 6)]) G (hears V) V.M (ss_cons (s_if (d_tnot (d_tval (d_callB (c_all rfl) rfl V.b_all bt_all (d_cons (d_lc (own := [("its", 7)]) rfl (by exact G.nd) (i_any (v_ 5)) (blkOk_by rfl) (fun s1 H1 C1 cl1 fp1 => (n_ (by exact G.nd) 7)) (fun s1 H1 C1 cl1 fp1 => ts_none) (fun s1 H1 C1 cl1 fp1 => (d_and (d_isx V.M (v_ 7) V.b_isinstance) (d_one (d_cmp (o_eq (by exact G.hu65)) (d_callB (c_repr (by exact G.gd) (by exact G.hu)) rfl V.b_repr bt_repr (d_cons (d_value V.M (v_ 7)) d_nil)) (d_callB (c_repr (by exact G.gd) (by exact G.hu)) rfl V.b_repr bt_repr (d_cons (v_ 3) d_nil)))))) (by decide)) d_nil)))) (ss_one (s_ret d_bl)) ss_nil) (ss_cons (st_ G 3 (ca_ G ((ok__law_of V).up) (d_cons (v_ 0) (d_cons (d_lst (d_cons d_non (d_cons (d_tup d_nil) (d_cons (d_tup (d_cons (d_tup (d_cons d_int (d_cons d_int d_nil))) (d_cons (d_tup (d_cons d_int (d_cons d_int d_nil))) d_nil))) (d_cons (d_lst (d_cons (d_tup (d_cons d_int (d_cons d_int d_nil))) d_nil)) (d_cons (d_tup (d_cons (d_tup (d_cons d_int (d_cons d_int d_nil))) d_nil)) (d_cons d_int d_nil))))))) d_nil)))) (ss_cons (st_ G 5 (d_ix (by exact G.hu) (d_heard G (hears V) V.M LA (LamX.lamS_by (by first | rfl | kernel_rfl)) (fun A outer s H E f c1 GL => (ca_ GL ((ok_cost_of_walk V).up) (d_cons (v_ 1) (d_cons (v_ 2) (d_cons (v_ 3) d_nil)))))) d_int)) (ss_cons (s_if (L2.PW.pt (w_or (d_tnot (d_tval (d_isx V.M (v_ 5) V.b_isinstance))) (w_or1 (d_tcmp (o_ne (by exact G.hu65)) (d_callB (c_repr (by exact G.gd) (by exact G.hu)) rfl V.b_repr bt_repr (d_cons (d_value V.M (v_ 5)) d_nil)) (d_callB (c_repr (by exact G.gd) (by exact G.hu)) rfl V.b_repr bt_repr (d_cons (v_ 3) d_nil)))))) (ss_one (s_ret d_bl)) ss_nil) (ss_cons (st_ G 3 (ca_ G ((ok__law_of V).up) (d_cons (v_ 0) (d_cons (d_lst (d_cons d_non (d_cons d_bl (d_cons (d_neg d_int) (d_cons d_int (d_cons d_str d_nil)))))) d_nil)))) (ss_cons (st_ G 5 (d_ix (by exact G.hu) (d_heard G (hears V) V.M LA (LamX.lamS_by (by first | rfl | kernel_rfl)) (fun A outer s H E f c1 GL => (ca_ GL ((ok_least_walk_in_band V).up) (d_cons (v_ 1) (d_cons (v_ 2) (d_cons (v_ 3) d_nil)))))) d_int)) (ss_one (s_ret (d_and (d_isx V.M (v_ 5) V.b_isinstance) (d_one (d_cmp (o_eq (by exact G.hu65)) (d_callB (c_repr (by exact G.gd) (by exact G.hu)) rfl V.b_repr bt_repr (d_cons (d_value V.M (v_ 5)) d_nil)) (d_callB (c_repr (by exact G.gd) (by exact G.hu)) rfl V.b_repr bt_repr (d_cons (v_ 3) d_nil))))))))))))) (blkOk_by rfl) rfl (hsw := sw_true rfl rfl rfl (by decide +kernel))) (LamX.lamS_by (by first | rfl | kernel_rfl)) (fun A outer s H E f c1 GL => (ca_ GL ((ok_bound_of V).up) (d_cons (v_ 1) (d_cons (v_ 3) d_nil))))) (LamX.lamS_by (by first | rfl | kernel_rfl)) (fun A outer s H E f c1 GL => (ca_ GL ((ok_how_many_least V).up) (d_cons (v_ 3) (d_cons (v_ 2) d_nil))))) (LamX.lamS_by (by first | rfl | kernel_rfl)) (fun A outer s H E f c1 GL => (ca_ GL ((ok_how_many_walks V).up) (d_cons (v_ 1) (d_cons (v_ 3) d_nil))))) (LamX.lamS_by (by first | rfl | kernel_rfl)) (fun A outer s H E f c1 GL => (ca_ GL ((ok_least_walk_in_band V).up) (d_cons (v_ 3) (d_cons d_non (d_cons d_non d_nil)))))) (LamX.lamS_by (by first | rfl | kernel_rfl)) (fun A outer s H E f c1 GL => (ca_ GL ((ok_shows_least_walk V).up) (d_cons (v_ 1) (d_cons (v_ 3) (d_cons d_non d_nil)))))) (LamX.lamS_by (by first | rfl | kernel_rfl)) (fun A outer s H E f c1 GL => (ca_ GL ((ok_least_walk V).up) (d_cons (v_ 3) (d_cons d_non d_nil))))) (LamX.lamS_by (by first | rfl | kernel_rfl)) (fun A outer s H E f c1 GL => (ca_ GL ((ok_cost_of_walk V).up) (d_cons (v_ 1) (d_cons (v_ 3) (d_cons d_non d_nil)))))) (LamX.lamS_by (by first | rfl | kernel_rfl)) (fun A outer s H E f c1 GL => (ca_ GL ((ok_is_walk V).up) (d_cons (v_ 3) (d_cons (v_ 2) (d_cons d_non d_nil)))))))

def _law_are_long_right_s0 : FS := (sPar 1 2 (fCons (fCa 2 φ__law_series (fCons (fVar 0) (fCons (fC (.int 12)) fNil))) (fCons (fCa 2 φ__law_series (fCons (fVar 0) (fCons (fC (.int 12)) fNil))) fNil)))
def _law_are_long_right_s1 : FS := (sSet 3 (fCa 2 φ_least_walk (fCons (fVar 1) (fCons (fVar 2) fNil))))
def _law_are_long_right_s2 : FS := (sIf (fOr (fTest (f2 dNotB (fCa 3 φ_shows_least_walk (fCons (fVar 1) (fCons (fVar 2) (fCons (fVar 3) fNil)))) (fC (.bl true)))) (fTest (f2 dGt (fCa 2 φ_bound_of (fCons (fVar 1) (fCons (fVar 2) fNil))) (f2 dIx (fVar 3) (fC (.int 1)))))) (sRet (fC (.bl false))) sNil)
def _law_are_long_right_s3 : FS := (sIf (fOr (fTest (f2 dNe (f2 dIx (fCa 2 φ_least_walk (fCons (fVar 2) (fCons (fVar 1) fNil))) (fC (.int 1))) (f2 dIx (fVar 3) (fC (.int 1))))) (fTest (f2 dNe (f2 dIx (fCa 2 φ_least_walk (fCons (f1 dBack (fVar 1)) (fCons (f1 dBack (fVar 2)) fNil))) (fC (.int 1))) (f2 dIx (fVar 3) (fC (.int 1)))))) (sRet (fC (.bl false))) sNil)
def _law_are_long_right_s4 : FS := (sIf (fOr (fTest (f2 dNe (f2 dIx (fCa 2 φ_least_walk (fCons (fVar 1) (fCons (fVar 1) fNil))) (fC (.int 1))) (fC (.int 0)))) (fTest (f2 dNe (f2 dIx (fCa 3 φ_least_walk_in_band (fCons (fVar 1) (fCons (fVar 2) (fCons (fC (.int 40)) fNil)))) (fC (.int 0))) (f2 dIx (fVar 3) (fC (.int 1)))))) (sRet (fC (.bl false))) sNil)
def _law_are_long_right_s5 : FS := (sSet 4 (fLst fNil))
def _law_are_long_right_b0 : FS := (sSet 4 (f2 dAdd (fVar 4) (fLst (fCons (fVar 5) (fCons (fVar 5) fNil)))))
def _law_are_long_right_l0 : FS := (sFor (fIt (fVar 1)) (gN 5) _law_are_long_right_b0)
def _law_are_long_right_s6 : FS := _law_are_long_right_l0
def _law_are_long_right_s7 : FS := (sRet (fAndV (f2 dEq (f2 dIx (fCa 2 φ_least_walk (fCons (fVar 1) (fCons (fCl dTuple (fCons (fVar 4) fNil)) fNil))) (fC (.int 1))) (fC (.int 0))) (f2 dLe (fCa 2 φ_how_many_least (fCons (fVar 1) (fCons (fVar 2) fNil))) (fCa 2 φ_how_many_walks (fCons (fVar 1) (fCons (fVar 2) fNil))))))
def fs__law_are_long_right : FS := (sSeq _law_are_long_right_s0 (sSeq _law_are_long_right_s1 (sSeq _law_are_long_right_s2 (sSeq _law_are_long_right_s3 (sSeq _law_are_long_right_s4 (sSeq _law_are_long_right_s5 (sSeq _law_are_long_right_s6 _law_are_long_right_s7)))))))
def φ__law_are_long_right : FF := bodyF 6 fs__law_are_long_right
theorem sc__law_are_long_right : FnScope ["pot", "one", "other", "told", "twice", "number"] ["pot"] (defScope (top 45)) := ⟨rfl, rfl, rfl, by decide +kernel, rfl, by decide +kernel, by decide +kernel⟩
theorem bi__law_are_long_right : BindOk "_law_are_long_right" (top 45) ["pot"] := fun _ _ _ _ _ _ us hl => match us, hl with | [_], _ => rfl
theorem ok__law_are_long_right (V : Nv P w K mg base T) : Fn1 P w K mg base T 6 "_law_are_long_right" (top 45) ["pot"] φ__law_are_long_right :=
  Fn1.of V.d__law_are_long_right V.g__law_are_long_right sc__law_are_long_right bi__law_are_long_right fun cdv A outer s H E G => (ss_cons (s_par rfl G.nd rfl rfl (by decide) rfl rfl (d_cons (ca_ G ((ok__law_series V).up) (d_cons (v_ 0) (d_cons d_int d_nil))) (d_cons (ca_ G ((ok__law_series V).up) (d_cons (v_ 0) (d_cons d_int d_nil))) d_nil)) rfl) (ss_cons (st_ G 3 (ca_ G ((ok_least_walk V).up) (d_cons (v_ 1) (d_cons (v_ 2) d_nil)))) (ss_cons (s_if (L2.PW.pt (w_or (d_tcmp o_notB (ca_ G ((ok_shows_least_walk V).up) (d_cons (v_ 1) (d_cons (v_ 2) (d_cons (v_ 3) d_nil)))) d_bl) (w_or1 (d_tcmp o_gt (ca_ G ((ok_bound_of V).up) (d_cons (v_ 1) (d_cons (v_ 2) d_nil))) (d_ix (by exact G.hu) (v_ 3) d_int))))) (ss_one (s_ret d_bl)) ss_nil) (ss_cons (s_if (L2.PW.pt (w_or (d_tcmp (o_ne (by exact G.hu65)) (d_ix (by exact G.hu) (ca_ G ((ok_least_walk V).up) (d_cons (v_ 2) (d_cons (v_ 1) d_nil))) d_int) (d_ix (by exact G.hu) (v_ 3) d_int)) (w_or1 (d_tcmp (o_ne (by exact G.hu65)) (d_ix (by exact G.hu) (ca_ G ((ok_least_walk V).up) (d_cons (d_back (v_ 1)) (d_cons (d_back (v_ 2)) d_nil))) d_int) (d_ix (by exact G.hu) (v_ 3) d_int))))) (ss_one (s_ret d_bl)) ss_nil) (ss_cons (s_if (L2.PW.pt (w_or (d_tcmp (o_ne (by exact G.hu65)) (d_ix (by exact G.hu) (ca_ G ((ok_least_walk V).up) (d_cons (v_ 1) (d_cons (v_ 1) d_nil))) d_int) d_int) (w_or1 (d_tcmp (o_ne (by exact G.hu65)) (d_ix (by exact G.hu) (ca_ G ((ok_least_walk_in_band V).up) (d_cons (v_ 1) (d_cons (v_ 2) (d_cons d_int d_nil)))) d_int) (d_ix (by exact G.hu) (v_ 3) d_int))))) (ss_one (s_ret d_bl)) ss_nil) (ss_cons (st_ G 4 (d_lst d_nil)) (ss_cons (s_for owns_bx rfl (i_any (v_ 1)) (n_ (by exact G.nd) 5) (ss_one (st_ G 4 (d_bin o_add (v_ 4) (d_lst (d_cons (v_ 5) (d_cons (v_ 5) d_nil))))))) (ss_one (s_ret (d_and (d_cmp (o_eq (by exact G.hu65)) (d_ix (by exact G.hu) (ca_ G ((ok_least_walk V).up) (d_cons (v_ 1) (d_cons (d_callTy c_tuple rfl V.b_tuple bt_tuple (d_cons (v_ 4) d_nil)) d_nil))) d_int) d_int) (d_one (d_cmp o_le (ca_ G ((ok_how_many_least V).up) (d_cons (v_ 1) (d_cons (v_ 2) d_nil))) (ca_ G ((ok_how_many_walks V).up) (d_cons (v_ 1) (d_cons (v_ 2) d_nil)))))))))))))))

theorem kb_bound_of_1 : KBindOk "bound_of" (top 27) ["one", "other"] 1 := fun _ _ _ _ _ _ us ws h1 h2 => match us, h1, h2 with | [_], _, h2 => match ws, (show ws.length = 1 by simp only [List.length_cons, List.length_nil] at h2; omega) with | [_], _ => rfl
theorem kb_cost_of_walk_2 : KBindOk "cost_of_walk" (top 18) ["one", "other", "walk"] 2 := fun _ _ _ _ _ _ us ws h1 h2 => match us, h1, h2 with | [_, _], _, h2 => match ws, (show ws.length = 1 by simp only [List.length_cons, List.length_nil] at h2; omega) with | [_], _ => rfl
theorem kb_how_many_least_1 : KBindOk "how_many_least" (top 26) ["one", "other"] 1 := fun _ _ _ _ _ _ us ws h1 h2 => match us, h1, h2 with | [_], _, h2 => match ws, (show ws.length = 1 by simp only [List.length_cons, List.length_nil] at h2; omega) with | [_], _ => rfl
theorem kb_how_many_walks_1 : KBindOk "how_many_walks" (top 25) ["one", "other"] 1 := fun _ _ _ _ _ _ us ws h1 h2 => match us, h1, h2 with | [_], _, h2 => match ws, (show ws.length = 1 by simp only [List.length_cons, List.length_nil] at h2; omega) with | [_], _ => rfl
theorem kb_is_series_0 : KBindOk "is_series" (top 13) ["value"] 0 := fun _ _ _ _ _ _ us ws h1 h2 => match us, h1, h2 with | [], _, h2 => match ws, (show ws.length = 1 by simp only [List.length_cons, List.length_nil] at h2; omega) with | [_], _ => rfl
theorem kb_is_walk_2 : KBindOk "is_walk" (top 16) ["one", "other", "value"] 2 := fun _ _ _ _ _ _ us ws h1 h2 => match us, h1, h2 with | [_, _], _, h2 => match ws, (show ws.length = 1 by simp only [List.length_cons, List.length_nil] at h2; omega) with | [_], _ => rfl
theorem kb_least_walk_1 : KBindOk "least_walk" (top 22) ["one", "other"] 1 := fun _ _ _ _ _ _ us ws h1 h2 => match us, h1, h2 with | [_], _, h2 => match ws, (show ws.length = 1 by simp only [List.length_cons, List.length_nil] at h2; omega) with | [_], _ => rfl
theorem kb_least_walk_in_band_2 : KBindOk "least_walk_in_band" (top 24) ["one", "other", "wide"] 2 := fun _ _ _ _ _ _ us ws h1 h2 => match us, h1, h2 with | [_, _], _, h2 => match ws, (show ws.length = 1 by simp only [List.length_cons, List.length_nil] at h2; omega) with | [_], _ => rfl
theorem kb_shows_least_walk_2 : KBindOk "shows_least_walk" (top 23) ["one", "other", "value"] 2 := fun _ _ _ _ _ _ us ws h1 h2 => match us, h1, h2 with | [_, _], _, h2 => match ws, (show ws.length = 1 by simp only [List.length_cons, List.length_nil] at h2; omega) with | [_], _ => rfl
def _law_right_s0 : FS := (sAsg (fTup (fCons (fCa 2 φ__law_series (fCons (fVar 0) (fCons (fC (.int 4)) fNil))) (fCons (fCa 2 φ__law_series (fCons (fVar 0) (fCons (fC (.int 4)) fNil))) fNil))) (gT 2 (gsC (gN 2) (gsC (gN 3) gsN))))
def _law_right_s1 : FS := (sSet 4 (fCa 2 φ__law_walks (fCons (fVar 2) (fCons (fVar 3) fNil))))
def _law_right_e0 : FE := (fCa 3 φ__law_walk_cost (fCons (fVar 2) (fCons (fVar 3) (fCons (fVar 6) fNil))))
def _law_right_c0 : FE := (fLc (fIt (fVar 4)) (gN 6) fYes _law_right_e0 [6])
def _law_right_s2 : FS := (sSet 5 _law_right_c0)
def _law_right_s3 : FS := (sIf (fTest (f2 dNe (fCl dRepr (fCons (fCaK 2 (gd_ 1) φ_how_many_walks (fCons (fVar 2) fNil) (fCons (fVar 3) fNil)) fNil)) (fCl dRepr (fCons (fCl dLen (fCons (fVar 4) fNil)) fNil)))) (sRet (fC (.bl false))) sNil)
def _law_right_t0 : FT := (fTest (f2 dEq (fVar 7) (fCl dMin (fCons (fVar 5) fNil))))
def _law_right_e1 : FE := (fC (.int 1))
def _law_right_c1 : FE := (fLc (fIt (fVar 5)) (gN 7) _law_right_t0 _law_right_e1 [7])
def _law_right_s4 : FS := (sIf (fTest (f2 dNe (fCl dRepr (fCons (fCaK 2 (gd_ 1) φ_how_many_least (fCons (fVar 2) fNil) (fCons (fVar 3) fNil)) fNil)) (fCl dRepr (fCons (fCl dLen (fCons _law_right_c1 fNil)) fNil)))) (sRet (fC (.bl false))) sNil)
def _law_right_s5 : FS := (sSet 6 (fCa 2 φ__law_of (fCons (fVar 0) (fCons (fVar 4) fNil))))
def _law_right_s6 : FS := (sIf (fTest (f2 dNe (fCl dRepr (fCons (fCaK 3 (gd_ 2) φ_cost_of_walk (fCons (fVar 2) (fCons (fVar 3) fNil)) (fCons (fVar 6) fNil)) fNil)) (fCl dRepr (fCons (fCa 3 φ__law_walk_cost (fCons (fVar 2) (fCons (fVar 3) (fCons (fVar 6) fNil)))) fNil)))) (sRet (fC (.bl false))) sNil)
def _law_right_e2 : FE := (fCa 2 (φ__law_bent 6) (fCons (fVar 0) (fCons (fVar 6) fNil)))
def _law_right_c2 : FE := (fLc (fRg itRg1 (fCons (fC (.int 3)) fNil)) (gN 9) fYes _law_right_e2 [9])
def _law_right_e3 : FE := (fCl dRepr (fCons (fVar 10) fNil))
def _law_right_c3 : FE := (fLc (fIt (fVar 4)) (gN 10) fYes _law_right_e3 [10])
def _law_right_b0 : FS := (sIf (fNot (fTest (fCa 2 φ__law_is_bool (fCons (fCaK 3 (gd_ 2) φ_is_walk (fCons (fVar 2) (fCons (fVar 3) fNil)) (fCons (fVar 8) fNil)) (fCons (f2 dIn (fCl dRepr (fCons (fVar 8) fNil)) _law_right_c3) fNil))))) (sRet (fC (.bl false))) sNil)
def _law_right_l0 : FS := (sFor (fIt (f2 dAdd (fLst (fCons (fVar 6) (fCons (fCl dList (fCons (fVar 6) fNil)) (fCons (fSl (fVar 6) (fPart (fC (.int 1))) fNoPart) (fCons (fC .non) (fCons (fCa 1 φ__law_odd (fCons (fVar 0) fNil)) fNil)))))) _law_right_c2)) (gN 8) _law_right_b0)
def _law_right_s7 : FS := _law_right_l0
def _law_right_s8 : FS := (sSet 11 (fCaK 2 (gd_ 1) φ_least_walk (fCons (fVar 2) fNil) (fCons (fVar 3) fNil)))
def _law_right_s9 : FS := (sIf (fNot (fTest (fCa 5 φ__law_is_due (fCons (fVar 2) (fCons (fVar 3) (fCons (fVar 4) (fCons (fCl dMin (fCons (fVar 5) fNil)) (fCons (fVar 11) fNil)))))))) (sRet (fC (.bl false))) sNil)
def _law_right_s10 : FS := (sPar 12 7 (fCons (fLstM (fCons (fVar 11) (fCons (fSl (fVar 11) fNoPart (fPart (fC (.int 3)))) (fCons (fCl dList (fCons (fVar 11) fNil)) (fCons (fC .non) (fCons (fCa 1 φ__law_odd (fCons (fVar 0) fNil)) fNil)))))) (fCons (fCa 3 φ__law_walk_cost (fCons (fVar 2) (fCons (fVar 3) (fCons (fVar 6) fNil)))) fNil)))
def _law_right_s11 : FS := (sExp (fMt .lst mApp (fVar 12) (fCons (fTup (fCons (fC (.str "walk")) (fCons (fVar 7) (fCons (fVar 6) (fCons (f2 dAdd (fTup (fCons (f2 dAdd (fTup (fCons (fVar 7) fNil)) (fSl (f2 dIx (f2 dIx (fVar 11) (fC (.int 3))) (fC (.int 0))) (fPart (fC (.int 1))) fNoPart)) fNil)) (fSl (f2 dIx (fVar 11) (fC (.int 3))) (fPart (fC (.int 1))) fNoPart)) fNil))))) fNil)))
def _law_right_e4 : FE := (fCa 2 (φ__law_bent 6) (fCons (fVar 0) (fCons (fVar 11) fNil)))
def _law_right_c4 : FE := (fLc (fRg itRg1 (fCons (fC (.int 5)) fNil)) (gN 9) fYes _law_right_e4 [9])
def _law_right_b1 : FS := (sSeq (sSet 13 (fCa 5 φ__law_is_due (fCons (fVar 2) (fCons (fVar 3) (fCons (fVar 4) (fCons (fCl dMin (fCons (fVar 5) fNil)) (fCons (fVar 8) fNil))))))) (sIf (fNot (fTest (fCa 2 φ__law_is_bool (fCons (fCaK 3 (gd_ 2) φ_shows_least_walk (fCons (fVar 2) (fCons (fVar 3) fNil)) (fCons (fVar 8) fNil)) (fCons (fVar 13) fNil))))) (sRet (fC (.bl false))) sNil))
def _law_right_l1 : FS := (sFor (fIt (f2 dAdd (fVar 12) _law_right_c4)) (gN 8) _law_right_b1)
def _law_right_s12 : FS := _law_right_l1
def _law_right_s13 : FS := (sSet 14 (fCl dInt (fCons (fCa 2 φ__law_take (fCons (fVar 0) (fCons (fC (.int 4)) fNil))) fNil)))
def _law_right_t1 : FT := (fTest (f2 dLe (fCa 3 φ__law_far (fCons (fVar 2) (fCons (fVar 3) (fCons (fVar 10) fNil)))) (fVar 14)))
def _law_right_e5 : FE := (fVar 7)
def _law_right_c5 : FE := (fLc (fZip (fCons (fVar 5) (fCons (fVar 4) fNil))) (gT 2 (gsC (gN 7) (gsC (gN 10) gsN))) _law_right_t1 _law_right_e5 [7, 10])
def _law_right_s14 : FS := (sSet 15 _law_right_c5)
def _law_right_s15 : FS := (sAsg (fCaK 3 (gd_ 2) φ_least_walk_in_band (fCons (fVar 2) (fCons (fVar 3) fNil)) (fCons (fVar 14) fNil)) (gT 2 (gsC (gN 7) (gsC (gN 10) gsN))))
def _law_right_e6 : FE := (fCl dRepr (fCons (fVar 6) fNil))
def _law_right_c6 : FE := (fLc (fIt (fVar 4)) (gN 6) fYes _law_right_e6 [6])
def _law_right_s16 : FS := (sIf (fOr (fTest (f2 dNe (fCl dRepr (fCons (fVar 7) fNil)) (fCl dRepr (fCons (fCl dMin (fCons (fVar 15) fNil)) fNil)))) (fTest (f2 dNotIn (fCl dRepr (fCons (fVar 10) fNil)) _law_right_c6))) (sRet (fC (.bl false))) sNil)
def _law_right_s17 : FS := (sIf (fOr (fTest (f2 dNe (fCa 3 φ__law_walk_cost (fCons (fVar 2) (fCons (fVar 3) (fCons (fVar 10) fNil)))) (fVar 7))) (fTest (f2 dGt (fCa 3 φ__law_far (fCons (fVar 2) (fCons (fVar 3) (fCons (fVar 10) fNil)))) (fVar 14)))) (sRet (fC (.bl false))) sNil)
def _law_right_s18 : FS := (sSet 16 (f2 dAdd (fCl dAbs (fCons (f2 dSub (f2 dIx (fVar 2) (fC (.int 0))) (f2 dIx (fVar 3) (fC (.int 0)))) fNil)) (f2 dMul (fCl dAbs (fCons (f2 dSub (f2 dIx (fVar 2) (f1 dNeg (fC (.int 1)))) (f2 dIx (fVar 3) (f1 dNeg (fC (.int 1))))) fNil)) (fCl dInt (fCons (f2 dGt (f2 dAdd (fCl dLen (fCons (fVar 2) fNil)) (fCl dLen (fCons (fVar 3) fNil))) (fC (.int 2))) fNil)))))
def _law_right_s19 : FS := (sSet 17 (fCl dMax (fCons (fVar 16) (fCons (f2 dSub (fCl dMax (fCons (fVar 2) fNil)) (fCl dMax (fCons (fVar 3) fNil))) (fCons (f2 dSub (fCl dMin (fCons (fVar 3) fNil)) (fCl dMin (fCons (fVar 2) fNil))) (fCons (fC (.int 0)) fNil))))))
def _law_right_s20 : FS := (sIf (fOr (fTest (f2 dNe (fCl dRepr (fCons (fCaK 2 (gd_ 1) φ_bound_of (fCons (fVar 2) fNil) (fCons (fVar 3) fNil)) fNil)) (fCl dRepr (fCons (fVar 17) fNil)))) (fTest (f2 dGt (fVar 17) (fCl dMin (fCons (fVar 5) fNil))))) (sRet (fC (.bl false))) sNil)
def _law_right_e7 : FE := (fCa 2 (φ__law_bent 6) (fCons (fVar 0) (fCons (fVar 2) fNil)))
def _law_right_c7 : FE := (fLc (fRg itRg1 (fCons (fC (.int 3)) fNil)) (gN 9) fYes _law_right_e7 [9])
def _law_right_b2 : FS := (sIf (fNot (fTest (fCa 2 φ__law_is_bool (fCons (fCa 1 φ_is_series (fCons (fVar 8) fNil)) (fCons (fCa 1 φ__law_is_series (fCons (fVar 8) fNil)) fNil))))) (sRet (fC (.bl false))) sNil)
def _law_right_l2 : FS := (sFor (fIt (f2 dAdd (fLst (fCons (fVar 2) (fCons (fCl dList (fCons (fVar 2) fNil)) (fCons (fTup fNil) (fCons (fCa 1 φ__law_odd (fCons (fVar 0) fNil)) fNil))))) _law_right_c7)) (gN 8) _law_right_b2)
def _law_right_s21 : FS := _law_right_l2
def _law_right_s22 : FS := (sIf (fOr (fNot (fTest (fCa 3 φ__law_are_refused (fCons (fVar 0) (fCons (fVar 2) (fCons (fVar 3) fNil)))))) (fNot (fTest (fCa 1 φ__law_are_long_right (fCons (fVar 0) fNil))))) (sRet (fC (.bl false))) sNil)
def _law_right_b3 : FS := (sSeq _law_right_s0 (sSeq _law_right_s1 (sSeq _law_right_s2 (sSeq _law_right_s3 (sSeq _law_right_s4 (sSeq _law_right_s5 (sSeq _law_right_s6 (sSeq _law_right_s7 (sSeq _law_right_s8 (sSeq _law_right_s9 (sSeq _law_right_s10 (sSeq _law_right_s11 (sSeq _law_right_s12 (sSeq _law_right_s13 (sSeq _law_right_s14 (sSeq _law_right_s15 (sSeq _law_right_s16 (sSeq _law_right_s17 (sSeq _law_right_s18 (sSeq _law_right_s19 (sSeq _law_right_s20 (sSeq _law_right_s21 _law_right_s22))))))))))))))))))))))
def _law_right_l3 : FS := (sFor (fRg itRg1 (fCons (fC (.int 5)) fNil)) (gN 1) _law_right_b3)
def fs__law_right : FS := (sSeq _law_right_l3 (sRet (fC (.bl true))))
def φ__law_right : FF := bodyF 18 fs__law_right
theorem sc__law_right : FnScope ["pot", "lap", "one", "other", "walks", "costs", "walk", "cost", "value", "turn", "its", "told", "some", "fine", "wide", "within", "ends", "due"] ["pot"] (defScope (top 46)) := ⟨rfl, rfl, rfl, by decide +kernel, rfl, by decide +kernel, by decide +kernel⟩
theorem bi__law_right : BindOk "_law_right" (top 46) ["pot"] := fun _ _ _ _ _ _ us hl => match us, hl with | [_], _ => rfl
theorem ok__law_right (V : Nv P w K mg base T) : Fn1 P w K mg base T 11 "_law_right" (top 46) ["pot"] φ__law_right :=
  Fn1.of V.d__law_right V.g__law_right sc__law_right bi__law_right fun cdv A outer s H E G => (ss_cons (s_for owns_bx rfl (i_range1 rfl V.b_range (d_cons d_int d_nil)) (n_ (by exact G.nd) 1) (ss_cons (s_asg (d_tup (d_cons (ca_ G ((ok__law_series V).up) (d_cons (v_ 0) (d_cons d_int d_nil))) (d_cons (ca_ G ((ok__law_series V).up) (d_cons (v_ 0) (d_cons d_int d_nil))) d_nil))) (t_tup rfl (ts_cons (n_ (by exact G.nd) 2) (ts_cons (n_ (by exact G.nd) 3) ts_nil)))) (ss_cons (st_ G 4 (ca_ G ((ok__law_walks V).up) (d_cons (v_ 2) (d_cons (v_ 3) d_nil)))) (ss_cons (st_ G 5 (d_lc (own := [("walk", 6)]) rfl (by exact G.nd) (i_any (v_ 4)) (blkOk_by rfl) (fun s1 H1 C1 cl1 fp1 => (n_ (by exact G.nd) 6)) (fun s1 H1 C1 cl1 fp1 => ts_none) (fun s1 H1 C1 cl1 fp1 => (ca_ (Good.blk G s1 H1 _ _ fp1) ((ok__law_walk_cost V).up) (d_cons (v_ 2) (d_cons (v_ 3) (d_cons (v_ 6) d_nil))))) (by decide))) (ss_cons (s_if (d_tcmp (o_ne (by exact G.hu65)) (d_callB (c_repr (by exact G.gd) (by exact G.hu)) rfl V.b_repr bt_repr (d_cons (cak_ G ((ok_how_many_walks V).up) kb_how_many_walks_1 (d_cons (v_ 2) d_nil) (dk_cons (v_ 3) dk_nil)) d_nil)) (d_callB (c_repr (by exact G.gd) (by exact G.hu)) rfl V.b_repr bt_repr (d_cons (d_callB c_len rfl V.b_len bt_len (d_cons (v_ 4) d_nil)) d_nil))) (ss_one (s_ret d_bl)) ss_nil) (ss_cons (s_if (d_tcmp (o_ne (by exact G.hu65)) (d_callB (c_repr (by exact G.gd) (by exact G.hu)) rfl V.b_repr bt_repr (d_cons (cak_ G ((ok_how_many_least V).up) kb_how_many_least_1 (d_cons (v_ 2) d_nil) (dk_cons (v_ 3) dk_nil)) d_nil)) (d_callB (c_repr (by exact G.gd) (by exact G.hu)) rfl V.b_repr bt_repr (d_cons (d_callB c_len rfl V.b_len bt_len (d_cons (d_lc (own := [("cost", 7)]) rfl (by exact G.nd) (i_any (v_ 5)) (blkOk_by rfl) (fun s1 H1 C1 cl1 fp1 => (n_ (by exact G.nd) 7)) (fun s1 H1 C1 cl1 fp1 => (ts_one (d_tcmp (o_eq (by exact G.hu65)) (v_ 7) (d_callB (c_min rfl) rfl V.b_min bt_min (d_cons (v_ 5) d_nil))))) (fun s1 H1 C1 cl1 fp1 => d_int) (by decide)) d_nil)) d_nil))) (ss_one (s_ret d_bl)) ss_nil) (ss_cons (st_ G 6 (ca_ G ((ok__law_of V).up) (d_cons (v_ 0) (d_cons (v_ 4) d_nil)))) (ss_cons (s_if (d_tcmp (o_ne (by exact G.hu65)) (d_callB (c_repr (by exact G.gd) (by exact G.hu)) rfl V.b_repr bt_repr (d_cons (cak_ G ((ok_cost_of_walk V).up) kb_cost_of_walk_2 (d_cons (v_ 2) (d_cons (v_ 3) d_nil)) (dk_cons (v_ 6) dk_nil)) d_nil)) (d_callB (c_repr (by exact G.gd) (by exact G.hu)) rfl V.b_repr bt_repr (d_cons (ca_ G ((ok__law_walk_cost V).up) (d_cons (v_ 2) (d_cons (v_ 3) (d_cons (v_ 6) d_nil)))) d_nil))) (ss_one (s_ret d_bl)) ss_nil) (ss_cons (s_for owns_bx rfl (i_any (d_bin o_add (d_lst (d_cons (v_ 6) (d_cons (d_callTy c_list rfl V.b_list bt_list (d_cons (v_ 6) d_nil)) (d_cons (d_slice (v_ 6) (p_some d_int) p_none) (d_cons d_non (d_cons (ca_ G ((ok__law_odd V).up) (d_cons (v_ 0) d_nil)) d_nil)))))) (d_lc (own := [("turn", 9)]) rfl (by exact G.nd) (i_range1 rfl V.b_range (d_cons d_int d_nil)) (blkOk_by rfl) (fun s1 H1 C1 cl1 fp1 => (n_ (by exact G.nd) 9)) (fun s1 H1 C1 cl1 fp1 => ts_none) (fun s1 H1 C1 cl1 fp1 => (ca_ (Good.blk G s1 H1 _ _ fp1) ((ok__law_bent V 6).up) (d_cons (v_ 0) (d_cons (v_ 6) d_nil)))) (by decide)))) (n_ (by exact G.nd) 8) (ss_one (s_if (d_tnot (d_tval (ca_ G ((ok__law_is_bool V).up) (d_cons (cak_ G ((ok_is_walk V).up) kb_is_walk_2 (d_cons (v_ 2) (d_cons (v_ 3) d_nil)) (dk_cons (v_ 8) dk_nil)) (d_cons (d_cmp (o_in (by exact G.hu)) (d_callB (c_repr (by exact G.gd) (by exact G.hu)) rfl V.b_repr bt_repr (d_cons (v_ 8) d_nil)) (d_lc (own := [("its", 10)]) rfl (by exact G.nd) (i_any (v_ 4)) (blkOk_by rfl) (fun s1 H1 C1 cl1 fp1 => (n_ (by exact G.nd) 10)) (fun s1 H1 C1 cl1 fp1 => ts_none) (fun s1 H1 C1 cl1 fp1 => (d_callB (c_repr (by exact G.gd) (by exact G.hu)) rfl V.b_repr bt_repr (d_cons (v_ 10) d_nil))) (by decide))) d_nil))))) (ss_one (s_ret d_bl)) ss_nil))) (ss_cons (st_ G 11 (cak_ G ((ok_least_walk V).up) kb_least_walk_1 (d_cons (v_ 2) d_nil) (dk_cons (v_ 3) dk_nil))) (ss_cons (s_if (d_tnot (d_tval (ca_ G ((ok__law_is_due V).up) (d_cons (v_ 2) (d_cons (v_ 3) (d_cons (v_ 4) (d_cons (d_callB (c_min rfl) rfl V.b_min bt_min (d_cons (v_ 5) d_nil)) (d_cons (v_ 11) d_nil)))))))) (ss_one (s_ret d_bl)) ss_nil) (ss_cons (s_par rfl G.nd rfl rfl (by decide) rfl rfl (d_cons (d_lstM (d_cons (v_ 11) (d_cons (d_slice (v_ 11) p_none (p_some d_int)) (d_cons (d_callTy c_list rfl V.b_list bt_list (d_cons (v_ 11) d_nil)) (d_cons d_non (d_cons (ca_ G ((ok__law_odd V).up) (d_cons (v_ 0) d_nil)) d_nil)))))) (d_cons (ca_ G ((ok__law_walk_cost V).up) (d_cons (v_ 2) (d_cons (v_ 3) (d_cons (v_ 6) d_nil)))) d_nil)) rfl) (ss_cons (s_exp (d_append (v_ 12) (d_cons (d_tup (d_cons d_str (d_cons (v_ 7) (d_cons (v_ 6) (d_cons (d_bin o_add (d_tup (d_cons (d_bin o_add (d_tup (d_cons (v_ 7) d_nil)) (d_slice (d_ix (by exact G.hu) (d_ix (by exact G.hu) (v_ 11) d_int) d_int) (p_some d_int) p_none)) d_nil)) (d_slice (d_ix (by exact G.hu) (v_ 11) d_int) (p_some d_int) p_none)) d_nil))))) d_nil))) (ss_cons (s_for owns_bx rfl (i_any (d_bin o_add (v_ 12) (d_lc (own := [("turn", 9)]) rfl (by exact G.nd) (i_range1 rfl V.b_range (d_cons d_int d_nil)) (blkOk_by rfl) (fun s1 H1 C1 cl1 fp1 => (n_ (by exact G.nd) 9)) (fun s1 H1 C1 cl1 fp1 => ts_none) (fun s1 H1 C1 cl1 fp1 => (ca_ (Good.blk G s1 H1 _ _ fp1) ((ok__law_bent V 6).up) (d_cons (v_ 0) (d_cons (v_ 11) d_nil)))) (by decide)))) (n_ (by exact G.nd) 8) (ss_cons (st_ G 13 (ca_ G ((ok__law_is_due V).up) (d_cons (v_ 2) (d_cons (v_ 3) (d_cons (v_ 4) (d_cons (d_callB (c_min rfl) rfl V.b_min bt_min (d_cons (v_ 5) d_nil)) (d_cons (v_ 8) d_nil))))))) (ss_one (s_if (d_tnot (d_tval (ca_ G ((ok__law_is_bool V).up) (d_cons (cak_ G ((ok_shows_least_walk V).up) kb_shows_least_walk_2 (d_cons (v_ 2) (d_cons (v_ 3) d_nil)) (dk_cons (v_ 8) dk_nil)) (d_cons (v_ 13) d_nil))))) (ss_one (s_ret d_bl)) ss_nil)))) (ss_cons (st_ G 14 (d_callTy c_int rfl V.b_int bt_int (d_cons (ca_ G ((ok__law_take V).up) (d_cons (v_ 0) (d_cons d_int d_nil))) d_nil))) (ss_cons (s_setLc (i := 15) (own := [("cost", 7), ("its", 10)]) rfl (by exact G.nd) rfl rfl (sw_true rfl rfl rfl (by decide +kernel)) (i_zip rfl V.b_zip (d_cons (v_ 5) (d_cons (v_ 4) d_nil))) (blkOk_by rfl) (fun s1 H1 C1 cl1 fp1 => (t_tup rfl (ts_cons (n_ (by exact G.nd) 7) (ts_cons (n_ (by exact G.nd) 10) ts_nil)))) (fun s1 H1 C1 cl1 fp1 => (ts_one (d_tcmp o_le (ca_ (Good.blk G s1 H1 _ _ fp1) ((ok__law_far V).up) (d_cons (v_ 2) (d_cons (v_ 3) (d_cons (v_ 10) d_nil)))) (v_ 14)))) (fun s1 H1 C1 cl1 fp1 => (v_ 7)) (by decide)) (ss_cons (s_asg (cak_ G ((ok_least_walk_in_band V).up) kb_least_walk_in_band_2 (d_cons (v_ 2) (d_cons (v_ 3) d_nil)) (dk_cons (v_ 14) dk_nil)) (t_tup rfl (ts_cons (n_ (by exact G.nd) 7) (ts_cons (n_ (by exact G.nd) 10) ts_nil)))) (ss_cons (s_if (L2.PW.pt (w_or (d_tcmp (o_ne (by exact G.hu65)) (d_callB (c_repr (by exact G.gd) (by exact G.hu)) rfl V.b_repr bt_repr (d_cons (v_ 7) d_nil)) (d_callB (c_repr (by exact G.gd) (by exact G.hu)) rfl V.b_repr bt_repr (d_cons (d_callB (c_min rfl) rfl V.b_min bt_min (d_cons (v_ 15) d_nil)) d_nil))) (w_or1 (d_tcmp (o_notIn (by exact G.hu)) (d_callB (c_repr (by exact G.gd) (by exact G.hu)) rfl V.b_repr bt_repr (d_cons (v_ 10) d_nil)) (d_lc (own := [("walk", 6)]) rfl (by exact G.nd) (i_any (v_ 4)) (blkOk_by rfl) (fun s1 H1 C1 cl1 fp1 => (n_ (by exact G.nd) 6)) (fun s1 H1 C1 cl1 fp1 => ts_none) (fun s1 H1 C1 cl1 fp1 => (d_callB (c_repr (by exact G.gd) (by exact G.hu)) rfl V.b_repr bt_repr (d_cons (v_ 6) d_nil))) (by decide)))))) (ss_one (s_ret d_bl)) ss_nil) (ss_cons (s_if (L2.PW.pt (w_or (d_tcmp (o_ne (by exact G.hu65)) (ca_ G ((ok__law_walk_cost V).up) (d_cons (v_ 2) (d_cons (v_ 3) (d_cons (v_ 10) d_nil)))) (v_ 7)) (w_or1 (d_tcmp o_gt (ca_ G ((ok__law_far V).up) (d_cons (v_ 2) (d_cons (v_ 3) (d_cons (v_ 10) d_nil)))) (v_ 14))))) (ss_one (s_ret d_bl)) ss_nil) (ss_cons (st_ G 16 (d_bin o_add (d_callB c_abs rfl V.b_abs bt_abs (d_cons (d_bin o_sub (d_ix (by exact G.hu) (v_ 2) d_int) (d_ix (by exact G.hu) (v_ 3) d_int)) d_nil)) (d_bin o_mul (d_callB c_abs rfl V.b_abs bt_abs (d_cons (d_bin o_sub (d_ix (by exact G.hu) (v_ 2) (d_neg d_int)) (d_ix (by exact G.hu) (v_ 3) (d_neg d_int))) d_nil)) (d_callTy c_int rfl V.b_int bt_int (d_cons (d_cmp o_gt (d_bin o_add (d_callB c_len rfl V.b_len bt_len (d_cons (v_ 2) d_nil)) (d_callB c_len rfl V.b_len bt_len (d_cons (v_ 3) d_nil))) d_int) d_nil))))) (ss_cons (st_ G 17 (d_callB (c_max rfl) rfl V.b_max bt_max (d_cons (v_ 16) (d_cons (d_bin o_sub (d_callB (c_max rfl) rfl V.b_max bt_max (d_cons (v_ 2) d_nil)) (d_callB (c_max rfl) rfl V.b_max bt_max (d_cons (v_ 3) d_nil))) (d_cons (d_bin o_sub (d_callB (c_min rfl) rfl V.b_min bt_min (d_cons (v_ 3) d_nil)) (d_callB (c_min rfl) rfl V.b_min bt_min (d_cons (v_ 2) d_nil))) (d_cons d_int d_nil)))))) (ss_cons (s_if (L2.PW.pt (w_or (d_tcmp (o_ne (by exact G.hu65)) (d_callB (c_repr (by exact G.gd) (by exact G.hu)) rfl V.b_repr bt_repr (d_cons (cak_ G ((ok_bound_of V).up) kb_bound_of_1 (d_cons (v_ 2) d_nil) (dk_cons (v_ 3) dk_nil)) d_nil)) (d_callB (c_repr (by exact G.gd) (by exact G.hu)) rfl V.b_repr bt_repr (d_cons (v_ 17) d_nil))) (w_or1 (d_tcmp o_gt (v_ 17) (d_callB (c_min rfl) rfl V.b_min bt_min (d_cons (v_ 5) d_nil)))))) (ss_one (s_ret d_bl)) ss_nil) (ss_cons (s_for owns_bx rfl (i_any (d_bin o_add (d_lst (d_cons (v_ 2) (d_cons (d_callTy c_list rfl V.b_list bt_list (d_cons (v_ 2) d_nil)) (d_cons (d_tup d_nil) (d_cons (ca_ G ((ok__law_odd V).up) (d_cons (v_ 0) d_nil)) d_nil))))) (d_lc (own := [("turn", 9)]) rfl (by exact G.nd) (i_range1 rfl V.b_range (d_cons d_int d_nil)) (blkOk_by rfl) (fun s1 H1 C1 cl1 fp1 => (n_ (by exact G.nd) 9)) (fun s1 H1 C1 cl1 fp1 => ts_none) (fun s1 H1 C1 cl1 fp1 => (ca_ (Good.blk G s1 H1 _ _ fp1) ((ok__law_bent V 6).up) (d_cons (v_ 0) (d_cons (v_ 2) d_nil)))) (by decide)))) (n_ (by exact G.nd) 8) (ss_one (s_if (d_tnot (d_tval (ca_ G ((ok__law_is_bool V).up) (d_cons (cak0_ G ((ok_is_series V).up) kb_is_series_0 (dk_cons (v_ 8) dk_nil)) (d_cons (ca_ G ((ok__law_is_series V).up) (d_cons (v_ 8) d_nil)) d_nil))))) (ss_one (s_ret d_bl)) ss_nil))) (ss_one (s_if (L2.PW.pt (w_or (d_tnot (d_tval (ca_ G ((ok__law_are_refused V).up) (d_cons (v_ 0) (d_cons (v_ 2) (d_cons (v_ 3) d_nil)))))) (w_or1 (d_tnot (d_tval (ca_ G ((ok__law_are_long_right V).up) (d_cons (v_ 0) d_nil))))))) (ss_one (s_ret d_bl)) ss_nil))))))))))))))))))))))))) (ss_one (s_ret d_bl)))

end
end K71
set_option Elab.async false
set_option linter.all false
set_option maxRecDepth 100000
set_option maxHeartbeats 0
namespace K71
open PySem PySem.Spec PyProof.Rows L2 Dn
noncomputable section
variable {P : Program} {w : World} {K : PySem.W.Frag} {mg : Str → Option Value} {base : Heap} {T : List (Addr × Str)}
def law_e0 : FE := (fCa 1 φ__law_right (fCons (fCa 2 φ__law_pot (fCons (fVar 0) (fCons (fVar 1) fNil))) fNil))
def law_c0 : FE := (fLc (fIt (fCa 2 φ__law_cells (fCons (fVar 0) (fCons (fC (.int 3)) fNil)))) (gN 1) fYes law_e0 [1])
def fs_law : FS := (sSeq (sIf (fOr (fTest (f2 dNe (f2 dIx (fCa 2 φ_least_walk (fCons (f2 dMul (fTup (fCons (fC (.int 0)) fNil)) (fC (.int 40))) (fCons (f2 dMul (fTup (fCons (fC (.int 1)) fNil)) (fC (.int 40))) fNil))) (fC (.int 1))) (fC (.int 40)))) (fTest (f2 dNe (fCa 2 φ_how_many_walks (fCons (f2 dMul (fTup (fCons (fC (.int 0)) fNil)) (fC (.int 40))) (fCons (fTup (fCons (fC (.int 1)) fNil)) fNil))) (fC (.int 1))))) (sRet (fC (.bl false))) sNil) (sRet (fCl dAll (fCons law_c0 fNil))))
def φ_law : FF := bodyF 2 fs_law
theorem sc_law : FnScope ["script", "at"] ["script"] (defScope (top 47)) := ⟨rfl, rfl, rfl, by decide +kernel, rfl, by decide +kernel, by decide +kernel⟩
theorem bi_law : BindOk "law" (top 47) ["script"] := fun _ _ _ _ _ _ us hl => match us, hl with | [_], _ => rfl
theorem ok_law (V : Nv P w K mg base T) : Fn1 P w K mg base T 12 "law" (top 47) ["script"] φ_law :=
  Fn1.of V.d_law V.g_law sc_law bi_law fun cdv A outer s H E G => (ss_cons (s_if (L2.PW.pt (w_or (d_tcmp (o_ne (by exact G.hu65)) (d_ix (by exact G.hu) (ca_ G ((ok_least_walk V).up) (d_cons (d_bin o_mul (d_tup (d_cons d_int d_nil)) d_int) (d_cons (d_bin o_mul (d_tup (d_cons d_int d_nil)) d_int) d_nil))) d_int) d_int) (w_or1 (d_tcmp (o_ne (by exact G.hu65)) (ca_ G ((ok_how_many_walks V).up) (d_cons (d_bin o_mul (d_tup (d_cons d_int d_nil)) d_int) (d_cons (d_tup (d_cons d_int d_nil)) d_nil))) d_int)))) (ss_one (s_ret d_bl)) ss_nil) (ss_one (s_ret (d_callB (c_all rfl) rfl V.b_all bt_all (d_cons (d_lc (own := [("at", 1)]) rfl (by exact G.nd) (i_any (ca_ G ((ok__law_cells V).up) (d_cons (v_ 0) (d_cons d_int d_nil)))) (blkOk_by rfl) (fun s1 H1 C1 cl1 fp1 => (n_ (by exact G.nd) 1)) (fun s1 H1 C1 cl1 fp1 => ts_none) (fun s1 H1 C1 cl1 fp1 => (ca_ (Good.blk G s1 H1 _ _ fp1) ((ok__law_right V).up) (d_cons (ca_ (Good.blk G s1 H1 _ _ fp1) ((ok__law_pot V).up) (d_cons (v_ 0) (d_cons (v_ 1) d_nil))) d_nil))) (by decide)) d_nil)))))

end
end K71
set_option Elab.async false
set_option linter.all false
set_option maxRecDepth 100000
set_option maxHeartbeats 2000000
namespace Dn
open PySem PySem.Spec PyProof.Rows L2
/-! ### plain: exits -/
abbrev Pu (η : Store) : Prop := η.all M.pure = true
theorem exit_rt {η more : Store} {d : D} (hη : Pu η) (hd : d.pure = true) : exitR η.length (.rt d (η ++ more)) = .ok d η := by
  unfold exitR
  dsimp only
  rw [List.take_left, if_pos hη]
  unfold frz
  rw [if_pos hd]
theorem exit_rt0 {η : Store} {d : D} (hη : Pu η) (hd : d.pure = true) : exitR η.length (.rt d η) = .ok d η := by
  have h := exit_rt (more := []) hη hd
  rwa [List.append_nil] at h
theorem exit_nx {η more : Store} {ρ : Ev} (hη : Pu η) : exitR η.length (.nx ρ (η ++ more)) = .ok .non η := by
  unfold exitR
  dsimp only
  rw [List.take_left, if_pos hη]
theorem exit_nx0 {η : Store} {ρ : Ev} (hη : Pu η) : exitR η.length (.nx ρ η) = .ok .non η := by
  have h := exit_nx (more := []) (ρ := ρ) hη
  rwa [List.append_nil] at h
theorem exit_rse {η more : Store} {c : Str} {d : D} (hη : Pu η) (hd : d.pure = true) : exitR η.length (.rse c d (η ++ more)) = .rse c d η := by
  unfold exitR
  dsimp only
  rw [List.take_left, if_pos hη]
  unfold frz
  rw [if_pos hd]
theorem exit_rse0 {η : Store} {c : Str} {d : D} (hη : Pu η) (hd : d.pure = true) : exitR η.length (.rse c d η) = .rse c d η := by
  have h := exit_rse (more := []) (c := c) hη hd
  rwa [List.append_nil] at h
/-- a value of the script's kind, or told by the program: no object under change, no error, no script -/
def D.told : D → Bool
  | .ref _ => false
  | .exc _ _ => false
  | .scr _ => false
  | .dT _ _ => false
  | _ => true
end Dn
namespace K71
open PySem PySem.Spec PyProof.Rows L2 Dn
def isIntD (v : D) (lo hi : Int) : Bool := match v with
  | .int i => decide (lo ≤ i) && decide (i ≤ hi)
  | _ => false
theorem is_int_ok {η : Store} {v : D} {lo hi : Int} (hη : Pu η) (hv : v.told = true) : φ_is_int [v, .int lo, .int hi] η = .ok (.bl (isIntD v lo hi)) η := by
  show exitR η.length (fs_is_int _ η) = _
  have e : fs_is_int (startD 3 [v, .int lo, .int hi]) η = .rt (.bl (isIntD v lo hi)) η := by
    cases v with
    | int i => by_cases h : lo ≤ i <;> simp [fs_is_int, startD, sRet, fAndV, fNotV, f1, fVar, fChain, dIsi, tyD, isTy, unB, R.of, isIntD, dLe, R.bind, R.thn, h]
    | _ => first
      | (cases hv; done)
      | (simp [fs_is_int, startD, sRet, fAndV, fNotV, f1, fVar, fChain, dIsi, tyD, isTy, unB, R.of, isIntD, dLe, R.bind, R.thn]; done)
  exact (congrArg _ e).trans (exit_rt0 hη rfl)
def isSerD (v : D) : Bool := match v with
  | .tup xs => decide (1 ≤ xs.length) && decide (xs.length ≤ 40) && xs.all fun x => isIntD x (-1000000) 1000000
  | _ => false
theorem unAll_bl {α : Type} (f : α → Bool) : ∀ l : List α, unAll unB (l.map fun a => D.bl (f a)) = some (l.map f)
  | [] => rfl
  | a :: l => by
    rw [List.map_cons, List.map_cons]
    unfold unAll
    rw [unAll_bl f l]
    rfl
theorem is_series_ok {η : Store} {v : D} (hη : Pu η) (hv : v.told = true) (hx : ∀ xs, v = .tup xs → ∀ x ∈ xs, x.told = true) : φ_is_series [v] η = .ok (.bl (isSerD v)) η := by
  show exitR η.length (fs_is_series _ η) = _
  have e : fs_is_series (startD 2 [v]) η = .rt (.bl (isSerD v)) η := by
    cases v with
    | tup xs =>
      have hx := hx xs rfl
      by_cases h : 1 ≤ xs.length ∧ xs.length ≤ 40
      · have lc : fLc (fIt (fVar 0)) (gN 1) fYes (fCa 3 φ_is_int (fCons (fVar 1) (fCons (f1 dNeg (fC (.int 1000000))) (fCons (fC (.int 1000000)) fNil)))) [1] [some (.tup xs), none] η = .ok (.lst (xs.map fun x => .bl (isIntD x (-1000000) 1000000))) η :=
          fLc_all id (fun x => .bl (isIntD x (-1000000) 1000000)) xs (by rw [List.map_id]; rfl) (Nat.le_trans h.2 (by decide)) fun x hxx => ⟨_, rfl, by
            simp [fCa, fCons, fVar, fC, f1, dNeg, fNil, gN, wipeD, R.of, R.bind, is_int_ok hη (hx x hxx)]⟩
        have h1 : (1 : Int) ≤ (xs.length : Int) := by omega
        have h2 : (xs.length : Int) ≤ 40 := by omega
        simp [fs_is_series, startD, sSeq, sIf, fOr, fNot, fTest, f1, fVar, dIsi, tyD, isTy, unB, R.of, R.bind, R.thn, fChain, fC, fCl, fCons, fNil, dLen, dLe, h1, h2, sRet, sNil, lc, dAll, lstOf, unAll_bl, isSerD, h.1, h.2]
      · by_cases h1 : 1 ≤ xs.length
        · have h2 : ¬ xs.length ≤ 40 := fun z => h ⟨h1, z⟩
          have h3 : (1 : Int) ≤ (xs.length : Int) := by omega
          have h4 : ¬ (xs.length : Int) ≤ 40 := by omega
          simp [fs_is_series, startD, sSeq, sIf, fOr, fNot, fTest, f1, fVar, dIsi, tyD, isTy, unB, R.of, R.bind, R.thn, fChain, fC, fCl, fCons, fNil, dLen, dLe, sRet, sNil, isSerD, h2, h3, h4]
        · have h3 : ¬ (1 : Int) ≤ (xs.length : Int) := by omega
          simp [fs_is_series, startD, sSeq, sIf, fOr, fNot, fTest, f1, fVar, dIsi, tyD, isTy, unB, R.of, R.bind, R.thn, fChain, fC, fCl, fCons, fNil, dLen, dLe, sRet, sNil, isSerD, h1, h3]
    | _ => first
      | (cases hv; done)
      | (simp [fs_is_series, startD, sSeq, sIf, fOr, fNot, fTest, f1, fVar, dIsi, tyD, isTy, unB, R.of, R.bind, R.thn, sRet, fC, isSerD]; done)
  exact (congrArg _ e).trans (exit_rt0 hη rfl)
end K71
set_option Elab.async false
set_option linter.all false
set_option maxRecDepth 100000
set_option maxHeartbeats 2000000
namespace Dn
open PySem PySem.Spec PyProof.Rows L2
/-! ### the pot -/
/-- η' is η but for the pot at i -/
def Pot (η : Store) (i : Nat) (b : Nat) : Prop := ∃ o s c : Int, η[i]? = some (.l [.int o, .int s, .int c]) ∧ 0 ≤ s ∧ s < 2305843009213693952 ∧ 0 ≤ c ∧ c ≤ b
structure Same (i : Nat) (η η' : Store) : Prop where
  len : η'.length = η.length
  off : ∀ j, j ≠ i → η'[j]? = η[j]?
theorem Same.refl {i : Nat} {η : Store} : Same i η η := ⟨rfl, fun _ _ => rfl⟩
theorem Same.trans {i : Nat} {η η1 η2 : Store} (a : Same i η η1) (b : Same i η1 η2) : Same i η η2 := ⟨b.len.trans a.len, fun j h => (b.off j h).trans (a.off j h)⟩
theorem Same.set {i : Nat} {η : Store} {m : M} : Same i η (η.set i m) := ⟨List.length_set, fun j h => List.getElem?_set_ne (Ne.symm h)⟩
theorem Pu.set {i : Nat} {η : Store} {m : M} (h : Pu η) (hm : m.pure = true) : Pu (η.set i m) := by
  refine List.all_eq_true.mpr fun x hx => ?_
  rcases List.mem_or_eq_of_mem_set hx with q | q
  · exact List.all_eq_true.mp h x q
  · rw [q]; exact hm
theorem exit_rt' {n : Nat} {η : Store} {d : D} (hn : n = η.length) (hη : Pu η) (hd : d.pure = true) : exitR n (.rt d η) = .ok d η := by
  subst hn
  exact exit_rt0 hη hd
theorem lg {x : Int} (h : 0 ≤ x) (h2 : x < 2 ^ 200) : x.natAbs.log2 ≤ 200 := by
  by_cases z : x.natAbs = 0
  · rw [z]; decide
  · have := (Nat.log2_lt (k := 200) z).mpr (by
      have e : ((x.natAbs : Nat) : Int) = x := Int.natAbs_of_nonneg h
      have : ((x.natAbs : Nat) : Int) < ((2 ^ 200 : Nat) : Int) := by rw [e]; exact_mod_cast h2
      exact_mod_cast this)
    omega
theorem mul_ok {η : Store} {a b : Int} (h1 : 0 ≤ a) (h2 : a < 2 ^ 200) (h3 : 0 ≤ b) (h4 : b < 2 ^ 200) : dMul η (.int a) (.int b) = some (.int (a * b)) := by
  have := lg h1 h2
  have := lg h3 h4
  unfold dMul
  dsimp only
  rw [if_pos (by omega)]
theorem cube_ok {η : Store} {a : Int} (h1 : 0 ≤ a) (h2 : a < 2 ^ 200) : dPow η (.int a) (.int 3) = some (.int (a ^ 3)) := by
  have := lg h1 h2
  have hb : Builtin.Int.intBits a ≤ 201 := by
    unfold Builtin.Int.intBits
    split <;> omega
  unfold dPow
  dsimp only
  rw [if_pos ⟨by decide, by omega⟩]
  rfl
theorem ix0 {η : Store} {i : Nat} {a b c : D} (h : η[i]? = some (.l [a, b, c])) : dIx η (.ref i) (.int 0) = some a := by simp [dIx, dictAt, h, lstOf, atI, ixN]
theorem ix1 {η : Store} {i : Nat} {a b c : D} (h : η[i]? = some (.l [a, b, c])) : dIx η (.ref i) (.int 1) = some b := by simp [dIx, dictAt, h, lstOf, atI, ixN]
theorem ix2 {η : Store} {i : Nat} {a b c : D} (h : η[i]? = some (.l [a, b, c])) : dIx η (.ref i) (.int 2) = some c := by simp [dIx, dictAt, h, lstOf, atI, ixN]
theorem set0 {η : Store} {i : Nat} {a b c d : D} (h : η[i]? = some (.l [a, b, c])) : dSet η (.ref i) (.int 0) d = some (η.set i (.l [d, b, c])) := by simp [dSet, h, ixN]
theorem set2 {η : Store} {i : Nat} {a b c d : D} (h : η[i]? = some (.l [a, b, c])) : dSet η (.ref i) (.int 2) d = some (η.set i (.l [a, b, d])) := by simp [dSet, h, ixN]
theorem get_set {η : Store} {i : Nat} {m m' : M} (h : η[i]? = some m) : (η.set i m')[i]? = some m' := List.getElem?_set_self (List.getElem?_eq_some_iff.mp h).1
end Dn
namespace K71
open PySem PySem.Spec PyProof.Rows L2 Dn
theorem prime_ix {η : Store} {r : Int} (h0 : 0 ≤ r) (h1 : r < 5) : ∃ p : Int, dIx η (.lst [.int 2147483647, .int 2147483629, .int 2147483587, .int 2147483579, .int 2147483563]) (.int r) = some (.int p) ∧ 2147483563 ≤ p ∧ p ≤ 2147483647 := by
  obtain rfl | rfl | rfl | rfl | rfl : r = 0 ∨ r = 1 ∨ r = 2 ∨ r = 3 ∨ r = 4 := by omega
  all_goals (refine ⟨_, rfl, ?_, ?_⟩ <;> decide)
theorem take_ok {η : Store} {i b : Nat} {upto : Int} (hη : Pu η) (hp : Pot η i b) (hb : b < 1000000000) (h1 : 1 ≤ upto) (h2 : upto < 2305843009213693952) :
    ∃ (n : Int) (η' : Store), φ__law_take [.ref i, .int upto] η = .ok (.int n) η' ∧ 0 ≤ n ∧ n < upto ∧ Pu η' ∧ Pot η' i (b + 1) ∧ Same i η η' := by
  obtain ⟨o, s, c, he, s0, s1, c0, c1⟩ := hp
  have hl : upto.natAbs.log2 < 9000 := by
    have := lg (x := upto) (by omega) (by omega)
    omega
  by_cases ho : 0 < o
  · refine ⟨o % upto, η.set i (.l [.int (o / upto), .int s, .int c]), ?_, Int.emod_nonneg _ (by omega), Int.emod_lt_of_pos _ (by omega), Pu.set hη rfl, ⟨_, _, _, get_set he, s0, s1, c0, by omega⟩, Same.set⟩
    show exitR η.length (fs__law_take _ η) = _
    have e : fs__law_take (startD 5 [.ref i, .int upto]) η = .rt (.int (o % upto)) (η.set i (.l [.int (o / upto), .int s, .int c])) := by
      have u1 : 0 < upto := by omega
      simp [fs__law_take, startD, sSeq, sIf, fTest, f2, fVar, R.of, fC, R.bind, R.thn, ix0 he, dGt, unB, ho, sSet, fCl, fCons, fNil, dInt, dMod, u1, sAsg, dFdiv, hl, gSb, set0 he, R.st, sRet]
    exact (congrArg _ e).trans (exit_rt' (by rw [List.length_set]) (Pu.set hη rfl) rfl)
  · obtain ⟨c', hc⟩ : ∃ c', c' = c + 1 := ⟨_, rfl⟩
    obtain ⟨η1, hη1⟩ : ∃ η1, η1 = η.set i (.l [.int o, .int s, .int c']) := ⟨_, rfl⟩
    have he1 : η1[i]? = some (.l [.int o, .int s, .int c']) := by rw [hη1]; exact get_set he
    obtain ⟨p, hp, p0, p1⟩ := prime_ix (η := η1) (r := c' % 5) (Int.emod_nonneg _ (by decide)) (Int.emod_lt_of_pos _ (by decide))
    have big : (2 : Int) ^ 200 = 1606938044258990275541962092341162602522202993782792835301376 := by decide
    have cc : c' * c' ≤ 1000000000 * 1000000000 := Int.mul_le_mul (by omega) (by omega) (by omega) (by omega)
    have cc0 : 0 ≤ c' * c' := Int.mul_nonneg (by omega) (by omega)
    obtain ⟨x, hx⟩ : ∃ x, x = s + 90007 * c' * c' + 3011 := ⟨_, rfl⟩
    have e90 : 90007 * c' * c' = 90007 * (c' * c') := Int.mul_assoc _ _ _
    have x0 : 0 ≤ x := by omega
    have x1 : x < 2 ^ 200 := by omega
    obtain ⟨m1, hm1⟩ : ∃ m1, m1 = x ^ 3 % p := ⟨_, rfl⟩
    have m10 : 0 ≤ m1 := by rw [hm1]; exact Int.emod_nonneg _ (by omega)
    have m11 : m1 < p := by rw [hm1]; exact Int.emod_lt_of_pos _ (by omega)
    obtain ⟨q, hq⟩ : ∃ q, q = m1 % 13729 := ⟨_, rfl⟩
    have q0 : 0 ≤ q := by rw [hq]; exact Int.emod_nonneg _ (by decide)
    have q1 : q < 13729 := by rw [hq]; exact Int.emod_lt_of_pos _ (by decide)
    have k1 : dMul η1 (.int 90007) (.int c') = some (.int (90007 * c')) := mul_ok (by decide) (by decide) (by omega) (by omega)
    have k2 : dMul η1 (.int (90007 * c')) (.int c') = some (.int (90007 * c' * c')) := mul_ok (by omega) (by omega) (by omega) (by omega)
    have k3 : dPow η1 (.int x) (.int 3) = some (.int (x ^ 3)) := cube_ok x0 x1
    have k4 : dMul η1 (.int 433) (.int c') = some (.int (433 * c')) := mul_ok (by decide) (by decide) (by omega) (by omega)
    have k5 : dMul η1 (.int m1) (.int (q + 433 * c')) = some (.int (m1 * (q + 433 * c'))) := mul_ok m10 (by omega) (by omega) (by omega)
    have u1 : 0 < upto := by omega
    have pp : 0 < p := by omega
    refine ⟨(m1 * (q + 433 * c') % 2305843009213693907 / 239) % upto, η1, ?_, Int.emod_nonneg _ (by omega), Int.emod_lt_of_pos _ (by omega), by rw [hη1]; exact Pu.set hη rfl, ⟨_, _, _, he1, s0, s1, by omega, by omega⟩, by rw [hη1]; exact Same.set⟩
    show exitR η.length (fs__law_take _ η) = _
    have e : fs__law_take (startD 5 [.ref i, .int upto]) η = .rt (.int ((m1 * (q + 433 * c') % 2305843009213693907 / 239) % upto)) η1 := by
      have l239 : (239 : Nat).log2 < 9000 := by decide
      simp [fs__law_take, startD, sSeq, sIf, fTest, f2, fVar, R.of, fC, R.bind, R.thn, ix0 he, dGt, unB, ho, sSet, fCl, fCons, fNil, dInt, dMod, u1, sAsg, dFdiv, gSb, set2 he, R.st, sRet, sNil, ix2 he, dAdd, ← hc, ← hη1, ix2 he1, ix1 he1, fLst, fits, sizeLine, hp, k1, k2, k3, k4, k5, pp, ← hx, ← hm1, ← hq, l239]
    exact (congrArg _ e).trans (exit_rt' (by rw [hη1, List.length_set]) (by rw [hη1]; exact Pu.set hη rfl) rfl)
end K71
set_option Elab.async false
set_option linter.all false
set_option maxRecDepth 100000
set_option maxHeartbeats 2000000
namespace K71
open PySem PySem.Spec PyProof.Rows L2 Dn
theorem pures_mem : ∀ {xs : List D}, D.pures xs = true → ∀ d ∈ xs, d.pure = true
  | x :: xs, h, d, hd => by
    unfold D.pures at h
    obtain ⟨h1, h2⟩ := Bool.and_eq_true_iff.mp h
    rcases List.mem_cons.mp hd with q | q
    · rw [q]; exact h1
    · exact pures_mem h2 d q
theorem of_ok {η : Store} {i b : Nat} {xs : List D} (hη : Pu η) (hp : Pot η i b) (hb : b < 1000000000) (hx : xs ≠ []) (hl : xs.length ≤ 1000000) (hpure : D.pures xs = true) :
    ∃ (d : D) (η' : Store), φ__law_of [.ref i, .lst xs] η = .ok d η' ∧ d ∈ xs ∧ Pu η' ∧ Pot η' i (b + 1) ∧ Same i η η' := by
  have hpos : 0 < xs.length := List.length_pos_iff.mpr hx
  obtain ⟨n, η', e, n0, n1, h1, h2, h3⟩ := take_ok (upto := (xs.length : Int)) hη hp hb (by omega) (by omega)
  have hn : n.toNat < xs.length := by omega
  refine ⟨xs[n.toNat], η', ?_, List.getElem_mem hn, h1, h2, h3⟩
  show exitR η.length (fs__law_of _ η) = _
  have ix : dIx η' (.lst xs) (.int n) = some xs[n.toNat] := by
    show (lstOf η' (.lst xs)).bind (fun ys => atI ys n) = _
    show atI xs n = _
    unfold atI ixN
    rw [if_pos n0, if_pos n1]
    show xs[n.toNat]? = _
    rw [List.getElem?_eq_getElem hn]
  have e' : fs__law_of (startD 2 [.ref i, .lst xs]) η = .rt xs[n.toNat] η' := by
    simp [fs__law_of, startD, sRet, f2, fVar, fCa, fCons, fNil, fCl, dLen, lstOf, R.of, R.bind, R.thn, e, ix]
  exact (congrArg _ e').trans (exit_rt' h3.len.symm h1 (pures_mem hpure _ (List.getElem_mem hn)))
theorem look_ok {η : Store} {v u : D} (hη : Pu η) (hv : v.told = true) (hx : ∀ xs, v = .tup xs → ∀ x ∈ xs, x.told = true) (hu : u.told = true) (hy : ∀ xs, u = .tup xs → ∀ x ∈ xs, x.told = true) (hvp : v.pure = true) (hup : u.pure = true) :
    φ_look_at_series [v, u] η = if isSerD v then (if isSerD u then .ok .non η else .rse "BadTold" u η) else .rse "BadTold" v η := by
  show exitR η.length (fs_look_at_series _ η) = _
  have fl : fs_look_at_series (startD 3 [v, u]) η = forL (gN 2) (sIf (fNot (fTest (fCa 1 φ_is_series (fCons (fVar 2) fNil)))) (sRaise "BadTold" (fVar 2)) sNil) [v, u] [some v, some u, none] η := sFor_eq (xs := [v, u]) (by
    simp [fIt, fTup, fCons, fVar, fNil, R.of, R.bind, fits, sizeLine, itOf]
    rfl)
  have sv := is_series_ok hη hv hx
  have su := is_series_ok hη hu hy
  rw [show startD _ [v, u] = startD 3 [v, u] from rfl, fl]
  cases h1 : isSerD v with
  | false =>
    rw [h1] at sv
    have e : forL (gN 2) (sIf (fNot (fTest (fCa 1 φ_is_series (fCons (fVar 2) fNil)))) (sRaise "BadTold" (fVar 2)) sNil) [v, u] [some v, some u, none] η = .rse "BadTold" v η := by
      simp [forL, gN, sIf, fNot, fTest, fCa, fCons, fVar, fNil, R.of, R.bind, R.thn, sv, unB, sRaise, onS]
    rw [e]
    exact exit_rse0 hη hvp
  | true =>
    rw [h1] at sv
    cases h2 : isSerD u with
    | false =>
      rw [h2] at su
      have e : forL (gN 2) (sIf (fNot (fTest (fCa 1 φ_is_series (fCons (fVar 2) fNil)))) (sRaise "BadTold" (fVar 2)) sNil) [v, u] [some v, some u, none] η = .rse "BadTold" u η := by
        simp [forL, gN, sIf, fNot, fTest, fCa, fCons, fVar, fNil, R.of, R.bind, R.thn, sv, su, unB, sRaise, onS, sNil]
      rw [e]
      exact exit_rse0 hη hup
    | true =>
      rw [h2] at su
      have e : forL (gN 2) (sIf (fNot (fTest (fCa 1 φ_is_series (fCons (fVar 2) fNil)))) (sRaise "BadTold" (fVar 2)) sNil) [v, u] [some v, some u, none] η = .nx [some v, some u, some u] η := by
        simp [forL, gN, sIf, fNot, fTest, fCa, fCons, fVar, fNil, R.of, R.bind, R.thn, sv, su, unB, sRaise, onS, sNil]
      rw [e]
      exact exit_nx0 hη
end K71
set_option Elab.async false
set_option linter.all false
set_option maxRecDepth 100000
set_option maxHeartbeats 2000000
namespace Dn
open PySem PySem.Spec PyProof.Rows L2
/-- a comprehension that changes the store as it goes -/
theorem lcL_inv {g : FG} {te : FE} {ρ : Ev} (N : Nat) (I : Nat → Store → Prop) (Q : D → Prop) : ∀ (l acc : List D) (n : Nat) (η : Store), acc.length + l.length ≤ sizeLine → n + l.length ≤ N → I n η → (∀ d ∈ l, ∀ n η, n < N → I n η → ∃ ρ2 y η', g d ρ η = .ok ρ2 η ∧ te ρ2 η = .ok y η' ∧ Q y ∧ I (n + 1) η') →
    ∃ ys η', lcL g fYes te ρ l acc η = .ok (acc ++ ys) η' ∧ ys.length = l.length ∧ (∀ y ∈ ys, Q y) ∧ I (n + l.length) η'
  | [], acc, n, η, _, _, hi, _ => ⟨[], η, by simp [lcL], rfl, nofun, hi⟩
  | d :: l, acc, n, η, hl, hN, hi, h => by
    rw [List.length_cons] at hl hN
    obtain ⟨ρ2, y, η1, h1, h2, h3, h4⟩ := h d List.mem_cons_self n η (by omega) hi
    obtain ⟨ys, η', e, h5, h6, h7⟩ := lcL_inv N I Q l (acc ++ [y]) (n + 1) η1 (by rw [List.length_append, List.length_singleton]; omega) (by omega) h4 fun d hd => h d (List.mem_cons_of_mem _ hd)
    refine ⟨y :: ys, η', ?_, by rw [List.length_cons, List.length_cons, h5], fun z hz => (List.mem_cons.mp hz).elim (fun q => by rw [q]; exact h3) (h6 z), by rw [List.length_cons, Nat.add_comm l.length 1, ← Nat.add_assoc]; exact h7⟩
    unfold lcL
    rw [h1]
    simp only [R.bindN, fYes, if_true]
    rw [h2]
    dsimp only
    rw [if_pos (by omega)]
    have e' : lcL g fYes te ρ l (acc ++ [y]) η1 = _ := e
    exact e'.trans (by rw [List.append_assoc]; rfl)
/-- .. by the whole rule -/
theorem fLc_inv {it : FI} {g : FG} {te : FE} {vs : List Nat} {ρ : Ev} {η η1 : Store} (I : Nat → Store → Prop) (Q : D → Prop) (l : List D) (hi : it ρ η = .ok (itF l) η1) (hl : l.length ≤ sizeLine) (h0 : I 0 η1) (h : ∀ d ∈ l, ∀ n η, n < l.length → I n η → ∃ ρ2 y η', g d (wipeD ρ vs) η = .ok ρ2 η ∧ te ρ2 η = .ok y η' ∧ Q y ∧ I (n + 1) η') :
    ∃ ys η', fLc it g fYes te vs ρ η = .ok (.lst ys) η' ∧ ys.length = l.length ∧ (∀ y ∈ ys, Q y) ∧ I l.length η' := by
  obtain ⟨ys, η', e, h1, h2, h3⟩ := lcL_inv (g := g) (te := te) (ρ := wipeD ρ vs) l.length I Q l [] 0 η1 (by rw [List.length_nil, Nat.zero_add]; exact hl) (by omega) h0 h
  refine ⟨ys, η', ?_, h1, h2, by rw [Nat.zero_add] at h3; exact h3⟩
  rw [fLc_eq hi, e]
  rfl
theorem ints_of : ∀ {ys : List D} {p : Int → Prop}, (∀ y ∈ ys, ∃ n, y = .int n ∧ p n) → ∃ ns : List Int, ys = ns.map .int ∧ ∀ n ∈ ns, p n
  | [], _, _ => ⟨[], rfl, nofun⟩
  | y :: ys, p, h => by
    obtain ⟨n, e, hp⟩ := h y List.mem_cons_self
    obtain ⟨ns, e2, h2⟩ := ints_of fun z hz => h z (List.mem_cons_of_mem _ hz)
    exact ⟨n :: ns, by rw [e, e2]; rfl, fun m hm => (List.mem_cons.mp hm).elim (fun q => by rw [q]; exact hp) (h2 m)⟩
theorem pures_ints : ∀ ns : List Int, D.pures (ns.map .int) = true
  | [] => rfl
  | n :: ns => by
    rw [List.map_cons]
    unfold D.pures
    rw [pures_ints ns]
    rfl
theorem Pot.mono {η : Store} {i b b' : Nat} (h : Pot η i b) (hb : b ≤ b') : Pot η i b' := by
  obtain ⟨o, s, c, h1, h2, h3, h4, h5⟩ := h
  exact ⟨o, s, c, h1, h2, h3, h4, by omega⟩
end Dn
namespace K71
open PySem PySem.Spec PyProof.Rows L2 Dn
/-- a series of numbers, as told -/
def serD (xs : List Int) : D := .tup (xs.map .int)
theorem series_ok {η : Store} {i b : Nat} {most : Int} (hη : Pu η) (hp : Pot η i b) (hb : b < 1000000) (h1 : 1 ≤ most) (h2 : most ≤ 40) :
    ∃ (xs : List Int) (η' : Store), φ__law_series [.ref i, .int most] η = .ok (serD xs) η' ∧ 1 ≤ xs.length ∧ (xs.length : Int) ≤ most ∧ (∀ x ∈ xs, -1000 ≤ x ∧ x ≤ 1000) ∧ Pu η' ∧ Pot η' i (b + 50) ∧ Same i η η' := by
  obtain ⟨d, η1, e1, hd, p1, q1, s1⟩ := of_ok (xs := [.int 3, .int 10, .int 2001]) hη hp (by omega) nofun (by decide) rfl
  obtain ⟨u, rfl, u1, u2⟩ : ∃ u : Int, d = .int u ∧ 3 ≤ u ∧ u ≤ 2001 := by
    simp only [List.mem_cons, List.not_mem_nil, or_false] at hd
    rcases hd with rfl | rfl | rfl
    · exact ⟨3, rfl, by decide, by decide⟩
    · exact ⟨10, rfl, by decide, by decide⟩
    · exact ⟨2001, rfl, by decide, by decide⟩
  obtain ⟨n, η2, e2, n0, n1, p2, q2, s2⟩ := take_ok (upto := most) p1 q1 (by omega) h1 (by omega)
  obtain ⟨m, hm⟩ : ∃ m : Nat, m = (1 + n).toNat := ⟨_, rfl⟩
  have hit : (fRg itRg1 (fCons (f2 dAdd (fC (.int 1)) (fCa 2 φ__law_take (fCons (fVar 0) (fCons (fVar 1) fNil)))) fNil)) [some (.ref i), some (.int most), some (.int u), none] η1 = .ok (itF ((List.range m).map fun j => .int (0 + (j : Nat) * 1))) η2 := by
    have hr : rgS (1 + n) = true := by
      unfold rgS
      refine decide_eq_true ⟨?_, ?_⟩ <;> omega
    simp [fRg, fCons, f2, fC, fCa, fVar, fNil, R.of, R.bind, e2, dAdd, itRg1, hr, itN, hm]
  have F := fLc_inv (g := gN 3) (te := f2 dSub (fCl dInt (fCons (fCa 2 φ__law_take (fCons (fVar 0) (fCons (fVar 2) fNil))) fNil)) (f2 dFdiv (fVar 2) (fC (.int 2)))) (vs := [3])
    (fun k η => Pu η ∧ Pot η i (b + 2 + k) ∧ Same i η2 η) (fun y => ∃ z : Int, y = .int z ∧ -1000 ≤ z ∧ z ≤ 1000) _ hit (by
      rw [List.length_map, List.length_range, sizeLine_eq]
      omega) ⟨p2, q2, .refl⟩ (fun d hd k η4 hk ⟨pk, qk, sk⟩ => by
        rw [List.length_map, List.length_range] at hk
        obtain ⟨z, η5, e5, z0, z1, p5, q5, s5⟩ := take_ok (upto := u) pk qk (by omega) (by omega) (by omega)
        refine ⟨_, .int (z - u / 2), η5, rfl, ?_, ⟨_, rfl, by omega, by omega⟩, p5, q5.mono (by omega), sk.trans s5⟩
        simp [f2, fCl, fCons, fCa, fVar, fNil, fC, gN, wipeD, R.of, R.bind, e5, dInt, dFdiv, dSub]
        rw [if_pos (by decide)])
  obtain ⟨ys, η3, e3, l3, q3, p3, r3, s3⟩ := F
  rw [List.length_map, List.length_range] at l3 r3
  obtain ⟨ns, rfl, hns⟩ := ints_of q3
  rw [List.length_map] at l3
  refine ⟨ns, η3, ?_, by omega, by omega, hns, p3, r3.mono (by omega), s1.trans (s2.trans s3)⟩
  show exitR η.length (fs__law_series _ η) = _
  have e : fs__law_series (startD 4 [.ref i, .int most]) η = .rt (serD ns) η3 := by
    simp [fs__law_series, startD, sSeq, sSet, fCa, fCons, fVar, fNil, fLst, fC, fits, sizeLine, R.of, R.bind, R.thn, e1, sRet, fCl, e3, dTuple, lstOf, serD]
  exact (congrArg _ e).trans (exit_rt' (by rw [s3.len, s2.len, s1.len]) p3 (pures_ints ns))
end K71
set_option Elab.async false
set_option linter.all false
set_option maxRecDepth 100000
set_option maxHeartbeats 2000000
namespace K71
open PySem PySem.Spec PyProof.Rows L2 Dn
/-- places -/
abbrev Pl := Nat × Nat
def plD (p : Pl) : D := .tup [.int p.1, .int p.2]
/-- the next places, as the program tells them -/
def nexts (n m : Nat) (p : Pl) : List Pl := [(p.1 + 1, p.2 + 1), (p.1, p.2 + 1), (p.1 + 1, p.2)].filter fun q => decide (q.1 < n) && decide (q.2 < m)
theorem told_next_ok {η : Store} {xs ys : List Int} {p : Pl} (hη : Pu η) : φ_told_next [serD xs, serD ys, plD p] η = .ok (.lst ((nexts xs.length ys.length p).map plD)) η := by
  show exitR η.length (fs_told_next _ η) = _
  obtain ⟨i, j⟩ := p
  have lc : fLc (fIt (fVar 3)) (gN 4) (fAnd (fTest (f2 dLt (f2 dIx (fVar 4) (fC (.int 0))) (fCl dLen (fCons (fVar 0) fNil)))) (fTest (f2 dLt (f2 dIx (fVar 4) (fC (.int 1))) (fCl dLen (fCons (fVar 1) fNil))))) (fVar 4) [4] [some (serD xs), some (serD ys), some (plD (i, j)), some (.lst ([(i + 1, j + 1), (i, j + 1), (i + 1, j)].map plD)), none] η = .ok (.lst ((nexts xs.length ys.length (i, j)).map plD)) η :=
    fLc_list plD (fun q => decide (q.1 < xs.length) && decide (q.2 < ys.length)) plD _ rfl (by show 3 ≤ sizeLine; rw [sizeLine_eq]; omega) fun q _ => ⟨_, rfl, by
      by_cases h : q.1 < xs.length <;> simp [fAnd, fTest, f2, fVar, fC, fCl, fCons, fNil, gN, wipeD, plD, serD, dIx, dictAt, atI, ixN, R.of, R.bind, dLen, dLt, unB, h], fun _ => by simp [fVar, gN, wipeD, R.of]⟩
  have e : fs_told_next (startD 5 [serD xs, serD ys, plD (i, j)]) η = .rt (.lst ((nexts xs.length ys.length (i, j)).map plD)) η := by
    have s3 : (sSet 3 (fLst (fCons (fTup (fCons (f2 dAdd (f2 dIx (fVar 2) (fC (.int 0))) (fC (.int 1))) (fCons (f2 dAdd (f2 dIx (fVar 2) (fC (.int 1))) (fC (.int 1))) fNil))) (fCons (fTup (fCons (f2 dIx (fVar 2) (fC (.int 0))) (fCons (f2 dAdd (f2 dIx (fVar 2) (fC (.int 1))) (fC (.int 1))) fNil))) (fCons (fTup (fCons (f2 dAdd (f2 dIx (fVar 2) (fC (.int 0))) (fC (.int 1))) (fCons (f2 dIx (fVar 2) (fC (.int 1))) fNil))) fNil))))) (startD 5 [serD xs, serD ys, plD (i, j)]) η = .nx [some (serD xs), some (serD ys), some (plD (i, j)), some (.lst ([(i + 1, j + 1), (i, j + 1), (i + 1, j)].map plD)), none] η := by
      simp [sSet, startD, fLst, fTup, fCons, fNil, f2, fVar, fC, plD, dIx, dictAt, atI, ixN, R.of, R.bind, R.thn, dAdd, fits, sizeLine]
    unfold fs_told_next sSeq
    rw [s3]
    dsimp only [sRet]
    rw [lc]
    rfl
  exact (congrArg _ e).trans (exit_rt0 hη (by
    have : ∀ l : List Pl, D.pures (l.map plD) = true := fun l => by
      induction l with
      | nil => rfl
      | cons a l ih => rw [List.map_cons]; unfold D.pures; rw [ih]; rfl
    show D.pure (.lst _) = true
    unfold D.pure
    exact this _))
end K71
set_option Elab.async false
set_option linter.all false
set_option maxRecDepth 100000
set_option maxHeartbeats 2000000
namespace K71
open PySem PySem.Spec PyProof.Rows L2 Dn
def absI (d : Int) : Int := if d < 0 then -d else d
/-- what a place costs -/
def cellC (xs ys : List Int) (p : Pl) : Int := absI (xs.getD p.1 0 - ys.getD p.2 0)
def costC (xs ys : List Int) (w : List Pl) : Int := (w.map (cellC xs ys)).sum
def walkD (w : List Pl) : D := .tup (w.map plD)
def InG (xs ys : List Int) (p : Pl) : Prop := p.1 < xs.length ∧ p.2 < ys.length
theorem unAll_int {α : Type} (f : α → Int) : ∀ l : List α, unAll unI (l.map fun a => D.int (f a)) = some (l.map f)
  | [] => rfl
  | a :: l => by
    rw [List.map_cons, List.map_cons]
    unfold unAll
    rw [unAll_int f l]
    rfl
theorem ser_ix {η : Store} {xs : List Int} {i : Nat} (h : i < xs.length) : dIx η (serD xs) (.int i) = some (.int (xs.getD i 0)) := by
  show atI (xs.map D.int) (i : Int) = _
  unfold atI ixN
  rw [if_pos (by omega), List.length_map, if_pos (by omega)]
  show (xs.map D.int)[((i : Int)).toNat]? = _
  rw [Int.toNat_natCast, List.getElem?_map, List.getElem?_eq_getElem h]
  simp [List.getD, List.getElem?_eq_getElem h]
theorem told_cost_ok {η : Store} {xs ys : List Int} {w : List Pl} (hη : Pu η) (hw : ∀ p ∈ w, InG xs ys p) (hl : w.length ≤ 1000) : φ_told_cost [serD xs, serD ys, walkD w] η = .ok (.int (costC xs ys w)) η := by
  show exitR η.length (fs_told_cost _ η) = _
  have lc : fLc (fIt (fVar 2)) (gT 2 (gsC (gN 3) (gsC (gN 4) gsN))) fYes (fCl dAbs (fCons (f2 dSub (f2 dIx (fVar 0) (fVar 3)) (f2 dIx (fVar 1) (fVar 4))) fNil)) [3, 4] [some (serD xs), some (serD ys), some (walkD w), none, none] η = .ok (.lst (w.map fun p => .int (cellC xs ys p))) η :=
    fLc_all plD _ w rfl (by rw [sizeLine_eq]; omega) fun p hp => ⟨_, rfl, by
      obtain ⟨h1, h2⟩ := hw p hp
      simp [fCl, fCons, f2, fVar, fNil, gN, wipeD, R.of, R.bind, ser_ix h1, ser_ix h2, dSub, dAbs, cellC, absI]⟩
  have e : fs_told_cost (startD 5 [serD xs, serD ys, walkD w]) η = .rt (.int (costC xs ys w)) η := by
    have e0 : startD 5 [serD xs, serD ys, walkD w] = [some (serD xs), some (serD ys), some (walkD w), none, none] := rfl
    rw [e0]
    dsimp only [fs_told_cost, sRet, fCl, fCons]
    rw [lc]
    simp [R.bind, R.of, R.thn, fNil, dSum, lstOf, unAll_int, costC]
  exact (congrArg _ e).trans (exit_rt0 hη rfl)
end K71
set_option Elab.async false
set_option linter.all false
set_option maxRecDepth 100000
set_option maxHeartbeats 2000000
namespace Dn
open PySem PySem.Spec PyProof.Rows L2
/-! ### least of a list -/
theorem foldl_min_le : ∀ (l : List Int) (x : Int), l.foldl min x ≤ x ∧ ∀ y ∈ l, l.foldl min x ≤ y
  | [], x => ⟨Int.le_refl _, nofun⟩
  | a :: l, x => by
    obtain ⟨h1, h2⟩ := foldl_min_le l (min x a)
    rw [List.foldl_cons]
    refine ⟨Int.le_trans h1 (Int.min_le_left _ _), fun y hy => ?_⟩
    rcases List.mem_cons.mp hy with rfl | hy
    · exact Int.le_trans h1 (Int.min_le_right _ _)
    · exact h2 y hy
theorem foldl_min_mem : ∀ (l : List Int) (x : Int), l.foldl min x = x ∨ l.foldl min x ∈ l
  | [], x => .inl rfl
  | a :: l, x => by
    rw [List.foldl_cons]
    rcases foldl_min_mem l (min x a) with h | h
    · rw [h]
      by_cases q : x ≤ a
      · rw [Int.min_eq_left q]; exact .inl rfl
      · rw [Int.min_eq_right (by omega)]; exact .inr List.mem_cons_self
    · exact .inr (List.mem_cons_of_mem _ h)
theorem minI_spec {l : List Int} {m : Int} (h : minI l = some m) : m ∈ l ∧ ∀ y ∈ l, m ≤ y := by
  cases l with
  | nil => cases h
  | cons a l =>
    cases h
    obtain ⟨h1, h2⟩ := foldl_min_le l a
    refine ⟨?_, fun y hy => ?_⟩
    · rcases foldl_min_mem l a with q | q
      · rw [q]; exact List.mem_cons_self
      · exact List.mem_cons_of_mem _ q
    · rcases List.mem_cons.mp hy with rfl | hy
      · exact h1
      · exact h2 y hy
theorem minI_some {l : List Int} (h : l ≠ []) : ∃ m, minI l = some m := by
  cases l with
  | nil => exact absurd rfl h
  | cons a l => exact ⟨_, rfl⟩
/-! ### paths in a graph whose steps go down -/
section
variable {α : Type} [DecidableEq α]
structure Down (nx : α → List α) (e : α) (rk : α → Nat) (Dm : α → Prop) : Prop where
  dec : ∀ p q, Dm p → q ∈ nx p → rk q < rk p ∧ Dm q
  stop : nx e = []
  go : ∀ p, Dm p → p ≠ e → nx p ≠ []
def paths (nx : α → List α) (e : α) : Nat → α → List (List α)
  | 0, _ => []
  | k + 1, p => if p = e then [[p]] else (nx p).flatMap fun q => (paths nx e k q).map (p :: ·)
def lab (nx : α → List α) (c : α → Int) : Nat → α → Int
  | 0, _ => 0
  | k + 1, p => c p + (minI ((nx p).map (lab nx c k))).getD 0
variable {nx : α → List α} {e : α} {rk : α → Nat} {Dm : α → Prop} {c : α → Int}
theorem lab_le (G : Down nx e rk Dm) : ∀ (k : Nat) (p : α) (w : List α), Dm p → rk p < k → w ∈ paths nx e k p → lab nx c k p ≤ (w.map c).sum
  | 0, p, w, _, h, _ => by omega
  | k + 1, p, w, hp, hk, hw => by
    unfold paths at hw
    unfold lab
    split at hw
    · rename_i he
      rw [List.mem_singleton.mp hw, he, G.stop]
      simp [minI]
    · obtain ⟨q, hq, hw⟩ := List.mem_flatMap.mp hw
      obtain ⟨v, hv, rfl⟩ := List.mem_map.mp hw
      obtain ⟨d1, d2⟩ := G.dec p q hp hq
      have ih := lab_le G k q v d2 (by omega) hv
      obtain ⟨m, hm⟩ := minI_some (l := (nx p).map (lab nx c k)) (by intro z; rw [List.map_eq_nil_iff] at z; rw [z] at hq; cases hq)
      have := (minI_spec hm).2 _ (List.mem_map.mpr ⟨q, hq, rfl⟩)
      rw [hm, List.map_cons, List.sum_cons]
      show c p + m ≤ _
      omega
theorem lab_at (G : Down nx e rk Dm) : ∀ (k : Nat) (p : α), Dm p → rk p < k → ∃ w ∈ paths nx e k p, (w.map c).sum = lab nx c k p
  | 0, p, _, h => by omega
  | k + 1, p, hp, hk => by
    unfold paths lab
    by_cases he : p = e
    · rw [if_pos he]
      refine ⟨[p], List.mem_singleton.mpr rfl, ?_⟩
      rw [he, G.stop]
      simp [minI]
    · rw [if_neg he]
      obtain ⟨m, hm⟩ := minI_some (l := (nx p).map (lab nx c k)) (by intro z; rw [List.map_eq_nil_iff] at z; exact G.go p hp he z)
      obtain ⟨q, hq, e1⟩ := List.mem_map.mp (minI_spec hm).1
      obtain ⟨d1, d2⟩ := G.dec p q hp hq
      obtain ⟨v, hv, e2⟩ := lab_at G k q d2 (by omega)
      refine ⟨p :: v, List.mem_flatMap.mpr ⟨q, hq, List.mem_map.mpr ⟨v, hv, rfl⟩⟩, ?_⟩
      rw [hm, List.map_cons, List.sum_cons, e2, e1]
      rfl
theorem lab_fuel (G : Down nx e rk Dm) : ∀ (k j : Nat) (p : α), Dm p → rk p < k → rk p < j → lab nx c k p = lab nx c j p
  | 0, _, p, _, h, _ => by omega
  | k + 1, 0, p, _, _, h => by omega
  | k + 1, j + 1, p, hp, hk, hj => by
    unfold lab
    rw [List.map_congr_left fun q hq => lab_fuel G k j q (G.dec p q hp hq).2 (by have := (G.dec p q hp hq).1; omega) (by have := (G.dec p q hp hq).1; omega)]
/-- the label, by the next ones' labels -/
theorem lab_eq (G : Down nx e rk Dm) {k : Nat} {p : α} (hp : Dm p) (hk : rk p < k) : lab nx c k p = c p + (minI ((nx p).map (lab nx c k))).getD 0 := by
  cases k with
  | zero => omega
  | succ k =>
    conv => lhs; unfold lab
    rw [List.map_congr_left fun q hq => lab_fuel G k (k + 1) q (G.dec p q hp hq).2 (by have := (G.dec p q hp hq).1; omega) (by have := (G.dec p q hp hq).1; omega)]
/-- a path, by its steps -/
def IsPath (nx : α → List α) (e : α) : List α → Prop
  | [] => False
  | [p] => p = e
  | p :: q :: r => q ∈ nx p ∧ IsPath nx e (q :: r)
theorem paths_head : ∀ (k : Nat) (p : α) (w : List α), w ∈ paths nx e k p → ∃ r, w = p :: r
  | 0, p, w, h => by cases h
  | k + 1, p, w, h => by
    unfold paths at h
    split at h
    · exact ⟨[], List.mem_singleton.mp h⟩
    · obtain ⟨q, _, h⟩ := List.mem_flatMap.mp h
      obtain ⟨v, _, rfl⟩ := List.mem_map.mp h
      exact ⟨v, rfl⟩
theorem paths_iff (G : Down nx e rk Dm) : ∀ (k : Nat) (p : α) (r : List α), Dm p → rk p < k → (p :: r ∈ paths nx e k p ↔ IsPath nx e (p :: r))
  | 0, p, r, _, h => by omega
  | k + 1, p, r, hp, hk => by
    unfold paths
    by_cases he : p = e
    · rw [if_pos he]
      cases r with
      | nil => simp [IsPath, he]
      | cons q r =>
        simp only [List.mem_singleton, List.cons.injEq, reduceCtorEq, and_false, false_iff]
        rintro ⟨h1, _⟩
        rw [he, G.stop] at h1
        cases h1
    · rw [if_neg he]
      cases r with
      | nil =>
        simp only [IsPath, he, iff_false]
        intro h
        obtain ⟨q, _, h⟩ := List.mem_flatMap.mp h
        obtain ⟨v, hv, e1⟩ := List.mem_map.mp h
        obtain ⟨r, rfl⟩ := paths_head k q v hv
        cases e1
      | cons q r =>
        constructor
        · intro h
          obtain ⟨q', hq, h⟩ := List.mem_flatMap.mp h
          obtain ⟨v, hv, e1⟩ := List.mem_map.mp h
          cases e1
          obtain ⟨r', e2⟩ := paths_head k q' _ hv
          cases e2
          obtain ⟨d1, d2⟩ := G.dec p q hp hq
          exact ⟨hq, (paths_iff G k q r d2 (by omega)).mp hv⟩
        · rintro ⟨hq, h⟩
          obtain ⟨d1, d2⟩ := G.dec p q hp hq
          exact List.mem_flatMap.mpr ⟨q, hq, List.mem_map.mpr ⟨_, (paths_iff G k q r d2 (by omega)).mpr h, rfl⟩⟩
end
end Dn
set_option Elab.async false
set_option linter.all false
set_option maxRecDepth 100000
set_option maxHeartbeats 2000000
namespace K71
open PySem PySem.Spec PyProof.Rows L2 Dn
/-! ### the grid, within a band -/
def bandA (n m : Nat) (wide : Option Int) (p : Pl) : Bool := match wide with
  | none => true
  | some w => decide (min 0 ((n : Int) - m) - w ≤ (p.1 : Int) - p.2) && decide ((p.1 : Int) - p.2 ≤ max 0 ((n : Int) - m) + w)
def nxA (n m : Nat) (wide : Option Int) (p : Pl) : List Pl := (nexts n m p).filter (bandA n m wide)
def endP (n m : Nat) : Pl := (n - 1, m - 1)
def rkP (n m : Nat) (p : Pl) : Nat := (n - 1 - p.1) + (m - 1 - p.2)
def DmP (n m : Nat) (wide : Option Int) (p : Pl) : Prop := p.1 < n ∧ p.2 < m ∧ bandA n m wide p = true
theorem mem_nexts {n m : Nat} {p q : Pl} : q ∈ nexts n m p ↔ (q = (p.1 + 1, p.2 + 1) ∨ q = (p.1, p.2 + 1) ∨ q = (p.1 + 1, p.2)) ∧ q.1 < n ∧ q.2 < m := by
  unfold nexts
  rw [List.mem_filter]
  simp only [List.mem_cons, List.not_mem_nil, or_false, Bool.and_eq_true, decide_eq_true_eq]
theorem down (n m : Nat) (wide : Option Int) (hw : ∀ w, wide = some w → 0 ≤ w) : Down (nxA n m wide) (endP n m) (rkP n m) (DmP n m wide) := by
  refine ⟨fun p q ⟨h1, h2, h3⟩ hq => ?_, ?_, fun p ⟨h1, h2, h3⟩ hne hz => ?_⟩
  · obtain ⟨hq, ha⟩ := List.mem_filter.mp hq
    obtain ⟨hs, q1, q2⟩ := mem_nexts.mp hq
    refine ⟨?_, q1, q2, ha⟩
    unfold rkP
    rcases hs with rfl | rfl | rfl <;> dsimp only at q1 q2 ⊢ <;> omega
  · refine List.eq_nil_iff_forall_not_mem.mpr fun q hq => ?_
    obtain ⟨hs, q1, q2⟩ := mem_nexts.mp (List.mem_filter.mp hq).1
    unfold endP at hs
    rcases hs with rfl | rfl | rfl <;> dsimp only at q1 q2 <;> omega
  · have key : ∀ q : Pl, (q = (p.1 + 1, p.2 + 1) ∨ q = (p.1, p.2 + 1) ∨ q = (p.1 + 1, p.2)) → q.1 < n → q.2 < m → bandA n m wide q = true → False := fun q a b c d => by
      have : q ∈ nxA n m wide p := List.mem_filter.mpr ⟨mem_nexts.mpr ⟨a, b, c⟩, d⟩
      rw [hz] at this
      cases this
    have hends : ¬ (p.1 = n - 1 ∧ p.2 = m - 1) := fun ⟨a, b⟩ => hne (Prod.ext a b)
    have band : ∀ q : Pl, (∀ w, wide = some w → min 0 ((n : Int) - m) - w ≤ (q.1 : Int) - q.2 ∧ (q.1 : Int) - q.2 ≤ max 0 ((n : Int) - m) + w) → bandA n m wide q = true := fun q h => by
      unfold bandA
      cases wide with
      | none => rfl
      | some w =>
        obtain ⟨a, b⟩ := h w rfl
        simp only [Bool.and_eq_true, decide_eq_true_eq]
        exact ⟨a, b⟩
    have here : ∀ w, wide = some w → min 0 ((n : Int) - m) - w ≤ (p.1 : Int) - p.2 ∧ (p.1 : Int) - p.2 ≤ max 0 ((n : Int) - m) + w := fun w e => by
      subst e
      unfold bandA at h3
      simpa only [Bool.and_eq_true, decide_eq_true_eq] using h3
    by_cases a : p.1 + 1 < n
    · by_cases b : p.2 + 1 < m
      · refine key (p.1 + 1, p.2 + 1) (.inl rfl) a b (band _ fun w e => ?_)
        have := here w e
        dsimp only
        omega
      · refine key (p.1 + 1, p.2) (.inr (.inr rfl)) a h2 (band _ fun w e => ?_)
        have := here w e
        have := hw w e
        dsimp only
        omega
    · have b : p.2 + 1 < m := by omega
      refine key (p.1, p.2 + 1) (.inr (.inl rfl)) h1 b (band _ fun w e => ?_)
      have := here w e
      have := hw w e
      dsimp only
      omega
/-- the label of a place -/
def labP (xs ys : List Int) (wide : Option Int) (p : Pl) : Int := lab (nxA xs.length ys.length wide) (cellC xs ys) (xs.length + ys.length) p
theorem rk_lt {n m : Nat} {p : Pl} (h1 : p.1 < n) (h2 : p.2 < m) : rkP n m p < n + m := by
  unfold rkP
  omega
theorem labP_eq {xs ys : List Int} {wide : Option Int} (hw : ∀ w, wide = some w → 0 ≤ w) {p : Pl} (hp : DmP xs.length ys.length wide p) : labP xs ys wide p = cellC xs ys p + (minI ((nxA xs.length ys.length wide p).map (labP xs ys wide))).getD 0 :=
  lab_eq (down _ _ _ hw) hp (rk_lt hp.1 hp.2.1)
/-- all walks from a place -/
def walksP (n m : Nat) (wide : Option Int) (p : Pl) : List (List Pl) := paths (nxA n m wide) (endP n m) (n + m) p
theorem labP_le {xs ys : List Int} {wide : Option Int} (hw : ∀ w, wide = some w → 0 ≤ w) {p : Pl} (hp : DmP xs.length ys.length wide p) {w : List Pl} (h : w ∈ walksP xs.length ys.length wide p) : labP xs ys wide p ≤ costC xs ys w := lab_le (down _ _ _ hw) _ p w hp (rk_lt hp.1 hp.2.1) h
theorem labP_at {xs ys : List Int} {wide : Option Int} (hw : ∀ w, wide = some w → 0 ≤ w) {p : Pl} (hp : DmP xs.length ys.length wide p) : ∃ w ∈ walksP xs.length ys.length wide p, costC xs ys w = labP xs ys wide p := lab_at (down _ _ _ hw) _ p hp (rk_lt hp.1 hp.2.1)
end K71
set_option Elab.async false
set_option linter.all false
set_option maxRecDepth 100000
set_option maxHeartbeats 2000000
namespace K71
open PySem PySem.Spec PyProof.Rows L2 Dn
theorem is_in_ok {η : Store} {xs ys : List Int} {w : Int} {p : Pl} (hη : Pu η) : φ_is_in [serD xs, serD ys, .int w, .int p.1, .int p.2] η = .ok (.bl (bandA xs.length ys.length (some w) p)) η := by
  show exitR η.length (fs_is_in _ η) = _
  have e : fs_is_in (startD 7 [serD xs, serD ys, .int w, .int p.1, .int p.2]) η = .rt (.bl (bandA xs.length ys.length (some w) p)) η := by
    by_cases h : min 0 ((xs.length : Int) - ys.length) - w ≤ (p.1 : Int) - p.2 <;> simp [fs_is_in, startD, sSeq, sPar, serD, fCons, fCl, f2, fVar, fC, fNil, R.of, R.bind, R.thn, dLen, dSub, dMin, dMax, unAll, Dn.unI, minI, maxI, sRet, fChain, dLe, dAdd, unB, bandA, h]
  exact (congrArg _ e).trans (exit_rt0 hη rfl)
end K71
set_option Elab.async false
set_option linter.all false
set_option maxRecDepth 100000
set_option maxHeartbeats 2000000
namespace K71
open PySem PySem.Spec PyProof.Rows L2 Dn
/-! ### labels as a dict -/
def kyP (p : Pl) : List Key := [.inl (p.1 : Int), .inl (p.2 : Int)]
theorem kyP_inj {p q : Pl} (h : kyP p = kyP q) : p = q := by
  unfold kyP at h
  simp only [List.cons.injEq, Sum.inl.injEq, and_true] at h
  exact Prod.ext (by omega) (by omega)
theorem tkey_pl (p : Pl) : tkeyOf (plD p) = some (kyP p) := rfl
theorem look_places (f : Pl → D) (p : Pl) : ∀ l : List Pl, look (l.map kyP) (l.map f) (kyP p) = if p ∈ l then some (f p) else none
  | [] => rfl
  | a :: l => by
    have ih := look_places f p l
    unfold look at ih ⊢
    rw [List.map_cons, List.map_cons, List.zip_cons_cons, List.find?_cons]
    by_cases h : a = p
    · subst h
      simp
    · have : kyP a ≠ kyP p := fun z => h (kyP_inj z)
      simp only [this, decide_false]
      rw [ih]
      have hm : p ∈ a :: l ↔ p ∈ l := ⟨fun z => (List.mem_cons.mp z).elim (fun q => absurd q.symm h) id, List.mem_cons_of_mem _⟩
      simp only [hm]
theorem put_places (f : Pl → D) (p : Pl) (l : List Pl) (h : p ∉ l) : put (l.map kyP) (l.map f) (kyP p) (f p) = ((l ++ [p]).map kyP, (l ++ [p]).map f) := by
  unfold put
  rw [if_neg, List.map_append, List.map_append]
  · rfl
  · intro z
    obtain ⟨q, hq, e⟩ := List.mem_map.mp z
    exact h (by rw [← kyP_inj e]; exact hq)
end K71
set_option Elab.async false
set_option linter.all false
set_option maxRecDepth 100000
set_option maxHeartbeats 2000000
namespace K71
open PySem PySem.Spec PyProof.Rows L2 Dn
def wideD : Option Int → D
  | none => .non
  | some w => .int w
/-- the dict of labels, of these places -/
def labM (xs ys : List Int) (wide : Option Int) (l : List Pl) : M := .dT (l.map kyP) (l.map fun p => .int (labP xs ys wide p))
theorem dictAt_lab {η : Store} {i : Nat} {xs ys : List Int} {wide : Option Int} {l : List Pl} (h : η[i]? = some (labM xs ys wide l)) (p : Pl) : dictAt η (.ref i) (plD p) = some (if p ∈ l then some (.int (labP xs ys wide p)) else none) := by
  unfold dictAt
  dsimp only
  rw [h]
  unfold labM
  dsimp only
  rw [tkey_pl]
  dsimp only [Option.map]
  rw [look_places (fun p => .int (labP xs ys wide p)) p l]
theorem in_lab {η : Store} {i : Nat} {xs ys : List Int} {wide : Option Int} {l : List Pl} (h : η[i]? = some (labM xs ys wide l)) (p : Pl) : dIn η (plD p) (.ref i) = some (.bl (decide (p ∈ l))) := by
  unfold dIn
  rw [dictAt_lab h]
  by_cases q : p ∈ l <;> simp [q]
theorem ix_lab {η : Store} {i : Nat} {xs ys : List Int} {wide : Option Int} {l : List Pl} (h : η[i]? = some (labM xs ys wide l)) {p : Pl} (hp : p ∈ l) : dIx η (.ref i) (plD p) = some (.int (labP xs ys wide p)) := by
  unfold dIx
  rw [dictAt_lab h, if_pos hp]
/-- labels[later] for later in told_next(..) if later in labels -/
theorem rests_ok {η : Store} {L : Nat} {xs ys : List Int} {wide : Option Int} {l : List Pl} {p : Pl} {ρ : Ev} (hη : Pu η) (h : η[L]? = some (labM xs ys wide l)) (h0 : ρ[0]? = some (some (serD xs))) (h1 : ρ[1]? = some (some (serD ys))) (h3 : ρ[3]? = some (some (.ref L))) (h4 : ρ[4]? = some (some (.int p.1))) (h5 : ρ[5]? = some (some (.int p.2))) (hl : ρ.length = 8) :
    fLc (fIt (fCa 3 φ_told_next (fCons (fVar 0) (fCons (fVar 1) (fCons (fTup (fCons (fVar 4) (fCons (fVar 5) fNil))) fNil))))) (gN 7) (fTest (f2 dIn (fVar 7) (fVar 3))) (f2 dIx (fVar 3) (fVar 7)) [7] ρ η = .ok (.lst (((nexts xs.length ys.length p).filter fun q => decide (q ∈ l)).map fun q => .int (labP xs ys wide q))) η := by
  have tn := told_next_ok (η := η) (xs := xs) (ys := ys) (p := p) hη
  have hf : fits [D.int (p.1 : Int), D.int (p.2 : Int)] = true := by unfold fits; rw [sizeLine_eq]; exact decide_eq_true (show 2 ≤ 16777216 by omega)
  refine fLc_list plD (fun q => decide (q ∈ l)) (fun q => .int (labP xs ys wide q)) (nexts xs.length ys.length p) ?_ ?_ fun q _ => ⟨_, rfl, ?_, fun hq => ?_⟩
  · have e : D.tup [D.int (p.1 : Int), D.int (p.2 : Int)] = plD p := rfl
    simp [fIt, fCa, fCons, fVar, fNil, fTup, h0, h1, h4, h5, R.of, R.bind, hf, e, tn, itOf]
  · refine Nat.le_trans (List.length_filter_le _ _) ?_
    show 3 ≤ sizeLine
    rw [sizeLine_eq]
    omega
  · have g7 : ((wipeD ρ [7]).set 7 (some (plD q)))[7]? = some (some (plD q)) := List.getElem?_set_self (by show 7 < (ρ.set 7 none).length; rw [List.length_set, hl]; omega)
    have g3 : ((wipeD ρ [7]).set 7 (some (plD q)))[3]? = some (some (.ref L)) := by
      rw [List.getElem?_set_ne (by decide)]
      show (ρ.set 7 none)[3]? = _
      rw [List.getElem?_set_ne (by decide), h3]
    simp [fTest, f2, fVar, g7, g3, R.of, R.bind, in_lab h, unB]
  · have hq : q ∈ l := of_decide_eq_true hq
    have g7 : ((wipeD ρ [7]).set 7 (some (plD q)))[7]? = some (some (plD q)) := List.getElem?_set_self (by show 7 < (ρ.set 7 none).length; rw [List.length_set, hl]; omega)
    have g3 : ((wipeD ρ [7]).set 7 (some (plD q)))[3]? = some (some (.ref L)) := by
      rw [List.getElem?_set_ne (by decide)]
      show (ρ.set 7 none)[3]? = _
      rw [List.getElem?_set_ne (by decide), h3]
    simp [f2, fVar, g7, g3, R.of, R.bind, ix_lab h hq]
end K71
set_option Elab.async false
set_option linter.all false
set_option maxRecDepth 100000
set_option maxHeartbeats 2000000
namespace K71
open PySem PySem.Spec PyProof.Rows L2 Dn
theorem set_lab {η : Store} {i : Nat} {xs ys : List Int} {wide : Option Int} {l : List Pl} (h : η[i]? = some (labM xs ys wide l)) {p : Pl} (hp : p ∉ l) (hl : l.length < 10000) : dSet η (.ref i) (plD p) (.int (labP xs ys wide p)) = some (η.set i (labM xs ys wide (l ++ [p]))) := by
  unfold dSet
  dsimp only
  rw [h]
  unfold labM
  dsimp only
  rw [tkey_pl]
  dsimp only
  rw [if_pos (by rw [List.length_map, sizeLine_eq]; omega), put_places (fun p => .int (labP xs ys wide p)) p l hp]
/-- what stands behind labels[place] = -/
theorem lab_value {xs ys : List Int} {wide : Option Int} (hw : ∀ w, wide = some w → 0 ≤ w) {p : Pl} {l : List Pl} (hp : DmP xs.length ys.length wide p) (hd : ∀ q, q ∈ nexts xs.length ys.length p → (q ∈ l ↔ bandA xs.length ys.length wide q = true)) :
    ((nexts xs.length ys.length p).filter fun q => decide (q ∈ l)) = nxA xs.length ys.length wide p := by
  unfold nxA
  refine List.filter_congr fun q hq => ?_
  by_cases h : bandA xs.length ys.length wide q = true
  · rw [h, decide_eq_true ((hd q hq).mpr h)]
  · rw [decide_eq_false fun z => h ((hd q hq).mp z)]
    simpa using (Bool.eq_false_iff.mpr h).symm
end K71
set_option Elab.async false
set_option linter.all false
set_option maxRecDepth 100000
set_option maxHeartbeats 2000000
namespace K71
open PySem PySem.Spec PyProof.Rows L2 Dn
noncomputable def labBody : FS := sIf (fOr (fTest (f2 dIsN (fVar 2) (fC .non))) (fTest (fCa 5 φ_is_in (fCons (fVar 0) (fCons (fVar 1) (fCons (fVar 2) (fCons (fVar 4) (fCons (fVar 5) fNil))))))))
  (sSeq (sSet 6 (fLc (fIt (fCa 3 φ_told_next (fCons (fVar 0) (fCons (fVar 1) (fCons (fTup (fCons (fVar 4) (fCons (fVar 5) fNil))) fNil))))) (gN 7) (fTest (f2 dIn (fVar 7) (fVar 3))) (f2 dIx (fVar 3) (fVar 7)) [7]))
    (sAsg (f2 dAdd (fCl dAbs (fCons (f2 dSub (f2 dIx (fVar 0) (fVar 4)) (f2 dIx (fVar 1) (fVar 5))) fNil)) (fIf (fTest (f2 dNe (fVar 6) (fLst fNil))) (fCl dMin (fCons (fVar 6) fNil)) (fC (.int 0)))) (gSb (fVar 3) (fTup (fCons (fVar 4) (fCons (fVar 5) fNil)))))) sNil
theorem labBody_no {η : Store} {xs ys : List Int} {w : Int} {p : Pl} {L : Nat} {r6 r7 : Option D} (hη : Pu η) (hb : bandA xs.length ys.length (some w) p = false) :
    labBody [some (serD xs), some (serD ys), some (.int w), some (.ref L), some (.int p.1), some (.int p.2), r6, r7] η = .nx [some (serD xs), some (serD ys), some (.int w), some (.ref L), some (.int p.1), some (.int p.2), r6, r7] η := by
  have e := is_in_ok (η := η) (xs := xs) (ys := ys) (w := w) (p := p) hη
  rw [hb] at e
  simp [labBody, sIf, fOr, fTest, f2, fVar, fC, fCa, fCons, fNil, R.of, R.bind, R.thn, dIsN, Dn.isNon, unB, e, sNil]
theorem ne_nil {η : Store} (l : List Int) : dNe η (.lst (l.map .int)) (.lst []) = some (.bl (decide (l ≠ []))) := by
  have ps : ∀ l : List Int, toPs (l.map .int) = some (l.map PyData.int) := fun l => by
    induction l with
    | nil => rfl
    | cons a l ih => rw [List.map_cons, toPs, ih]; rfl
  have e1 : toP η (.lst (l.map .int)) = some (.list (l.map PyData.int)) := by
    show (toPs (l.map .int)).map PyData.list = _
    rw [ps]
    rfl
  have e2 : toP η (.lst []) = some (.list []) := rfl
  unfold dNe
  rw [e1, e2]
  dsimp only
  rw [if_pos (Nat.le_trans (Nat.min_le_right _ _) (by decide))]
  cases l with
  | nil => rfl
  | cons a l => rfl
end K71
set_option Elab.async false
set_option linter.all false
set_option maxRecDepth 100000
set_option maxHeartbeats 2000000
namespace K71
open PySem PySem.Spec PyProof.Rows L2 Dn
theorem labBody_yes {η : Store} {xs ys : List Int} {wide : Option Int} {p : Pl} {L : Nat} {l : List Pl} {r6 r7 : Option D} (hη : Pu η) (hw : ∀ w, wide = some w → 0 ≤ w) (h : η[L]? = some (labM xs ys wide l)) (hp : DmP xs.length ys.length wide p) (hn : p ∉ l) (hl : l.length < 10000)
    (hd : ∀ q, q ∈ nexts xs.length ys.length p → (q ∈ l ↔ bandA xs.length ys.length wide q = true)) :
    ∃ r6', labBody [some (serD xs), some (serD ys), some (wideD wide), some (.ref L), some (.int p.1), some (.int p.2), r6, r7] η = .nx [some (serD xs), some (serD ys), some (wideD wide), some (.ref L), some (.int p.1), some (.int p.2), r6', r7] (η.set L (labM xs ys wide (l ++ [p]))) := by
  have rs := rests_ok (ρ := [some (serD xs), some (serD ys), some (wideD wide), some (.ref L), some (.int p.1), some (.int p.2), r6, r7]) (p := p) hη h rfl rfl rfl rfl rfl rfl
  rw [lab_value hw hp hd] at rs
  obtain ⟨rl, hrl⟩ : ∃ rl, rl = (nxA xs.length ys.length wide p).map (labP xs ys wide) := ⟨_, rfl⟩
  have rs' : _ = R.ok (D.lst (rl.map .int)) η := rs.trans (by rw [hrl, List.map_map]; rfl)
  have ev := labP_eq hw hp
  rw [← hrl] at ev
  refine ⟨some (.lst (rl.map .int)), ?_⟩
  have hi : (R.ok true η : R Bool) = (fOr (fTest (f2 dIsN (fVar 2) (fC .non))) (fTest (fCa 5 φ_is_in (fCons (fVar 0) (fCons (fVar 1) (fCons (fVar 2) (fCons (fVar 4) (fCons (fVar 5) fNil)))))))) [some (serD xs), some (serD ys), some (wideD wide), some (.ref L), some (.int p.1), some (.int p.2), r6, r7] η := by
    cases wide with
    | none => rfl
    | some w =>
      have e := is_in_ok (η := η) (xs := xs) (ys := ys) (w := w) (p := p) hη
      rw [hp.2.2] at e
      simp [fOr, fTest, f2, fVar, fC, fCa, fCons, fNil, R.of, R.bind, wideD, dIsN, Dn.isNon, unB, e]
  unfold labBody sIf
  rw [← hi]
  simp only [R.thn_ok, if_true]
  unfold sSeq sSet
  rw [rs']
  simp only [R.thn_ok]
  have hm : (if rl ≠ [] then (minI rl).map D.int else some (.int 0)) = some (.int ((minI rl).getD 0)) := by
    cases rl with
    | nil => rfl
    | cons a r => rfl
  have ua : ∀ l : List Int, unAll Dn.unI (l.map .int) = some l := fun l => by
    have := unAll_int id l
    simpa using this
  have hs := set_lab (η := η) h hn hl
  have hf : fits [D.int (p.1 : Int), D.int (p.2 : Int)] = true := by unfold fits; rw [sizeLine_eq]; exact decide_eq_true (show 2 ≤ 16777216 by omega)
  have ep : D.tup [D.int (p.1 : Int), D.int (p.2 : Int)] = plD p := rfl
  have ec : (if xs.getD p.1 0 - ys.getD p.2 0 < 0 then -(xs.getD p.1 0 - ys.getD p.2 0) else xs.getD p.1 0 - ys.getD p.2 0) = cellC xs ys p := rfl
  have h2 : 2 ≤ sizeLine := by rw [sizeLine_eq]; omega
  cases rl with
  | nil =>
    have ev2 : (if xs[p.1]?.getD 0 - ys[p.2]?.getD 0 < 0 then -(xs[p.1]?.getD 0 - ys[p.2]?.getD 0) else xs[p.1]?.getD 0 - ys[p.2]?.getD 0) = labP xs ys wide p := by
      rw [ev]
      simp [cellC, absI, List.getD_eq_getElem?_getD, minI]
    have nn := ne_nil (η := η) []
    simp only [List.map_nil] at nn
    simp [sAsg, f2, fCl, fCons, fVar, fNil, fC, fIf, fTest, fLst, fits, R.of, R.bind, R.thn, ser_ix hp.1, ser_ix hp.2.1, dSub, dAbs, nn, unB, dAdd, gSb, fTup, ep, R.st, h2, ev2, hs]
  | cons a r =>
    have ev2 : (if xs[p.1]?.getD 0 - ys[p.2]?.getD 0 < 0 then -(xs[p.1]?.getD 0 - ys[p.2]?.getD 0) else xs[p.1]?.getD 0 - ys[p.2]?.getD 0) + List.foldl min a r = labP xs ys wide p := by
      rw [ev]
      simp [cellC, absI, List.getD_eq_getElem?_getD, minI]
    have nn := ne_nil (η := η) (a :: r)
    have u := ua (a :: r)
    simp only [List.map_cons] at nn u
    simp [sAsg, f2, fCl, fCons, fVar, fNil, fC, fIf, fTest, fLst, fits, R.of, R.bind, R.thn, ser_ix hp.1, ser_ix hp.2.1, dSub, dAbs, nn, unB, dAdd, gSb, fTup, ep, R.st, h2, ev2, hs, dMin, seqOf, lstOf, u, minI]
end K71
set_option Elab.async false
set_option linter.all false
set_option maxRecDepth 100000
set_option maxHeartbeats 2000000
namespace K71
open PySem PySem.Spec PyProof.Rows L2 Dn
/-- the places done of row i: columns from the last down to k -/
def rowP (A : Pl → Bool) (m i k : Nat) : List Pl := ((List.range' k (m - k)).reverse.map fun j => (i, j)).filter A
/-- the places done: rows from the last down to i -/
def tabP (A : Pl → Bool) (n m i : Nat) : List Pl := (List.range' i (n - i)).reverse.flatMap fun a => rowP A m a 0
theorem rowP_step {A : Pl → Bool} {m i k : Nat} (h : k < m) : rowP A m i k = rowP A m i (k + 1) ++ (if A (i, k) then [(i, k)] else []) := by
  unfold rowP
  rw [show m - k = (m - (k + 1)) + 1 by omega, List.range'_succ, List.reverse_cons, List.map_append, List.filter_append]
  congr 1
  simp [List.filter_cons]
theorem rowP_end {A : Pl → Bool} {m i : Nat} : rowP A m i m = [] := by
  unfold rowP
  rw [Nat.sub_self]
  rfl
theorem tabP_step {A : Pl → Bool} {n m i : Nat} (h : i < n) : tabP A n m i = tabP A n m (i + 1) ++ rowP A m i 0 := by
  unfold tabP
  rw [show n - i = (n - (i + 1)) + 1 by omega, List.range'_succ, List.reverse_cons, List.flatMap_append]
  simp
theorem tabP_end {A : Pl → Bool} {n m : Nat} : tabP A n m n = [] := by
  unfold tabP
  rw [Nat.sub_self]
  rfl
theorem mem_rowP {A : Pl → Bool} {m i k : Nat} {p : Pl} : p ∈ rowP A m i k ↔ p.1 = i ∧ k ≤ p.2 ∧ p.2 < m ∧ A p = true := by
  unfold rowP
  rw [List.mem_filter, List.mem_map]
  constructor
  · rintro ⟨⟨j, hj, rfl⟩, ha⟩
    rw [List.mem_reverse, List.mem_range'] at hj
    obtain ⟨x, h1, h2⟩ := hj
    exact ⟨rfl, by dsimp only; omega, by dsimp only; omega, ha⟩
  · rintro ⟨h1, h2, h3, h4⟩
    refine ⟨⟨p.2, ?_, Prod.ext h1.symm rfl⟩, h4⟩
    rw [List.mem_reverse, List.mem_range']
    exact ⟨p.2 - k, by omega, by omega⟩
theorem mem_tabP {A : Pl → Bool} {n m i : Nat} {p : Pl} : p ∈ tabP A n m i ↔ i ≤ p.1 ∧ p.1 < n ∧ p.2 < m ∧ A p = true := by
  unfold tabP
  rw [List.mem_flatMap]
  constructor
  · rintro ⟨a, ha, hp⟩
    rw [List.mem_reverse, List.mem_range'] at ha
    obtain ⟨x, h1, h2⟩ := ha
    obtain ⟨h3, h4, h5, h6⟩ := mem_rowP.mp hp
    exact ⟨by omega, by omega, h5, h6⟩
  · rintro ⟨h1, h2, h3, h4⟩
    refine ⟨p.1, ?_, mem_rowP.mpr ⟨rfl, Nat.zero_le _, h3, h4⟩⟩
    rw [List.mem_reverse, List.mem_range']
    exact ⟨p.1 - i, by omega, by omega⟩
end K71
set_option Elab.async false
set_option linter.all false
set_option maxRecDepth 100000
set_option maxHeartbeats 2000000
namespace K71
open PySem PySem.Spec PyProof.Rows L2 Dn
theorem down_list (m : Nat) : ((List.range m).map fun k => D.int (((m : Int) - 1) + (k : Nat) * (-1))) = (List.range m).reverse.map fun j => D.int (j : Nat) := by
  refine List.ext_getElem? fun k => ?_
  rw [List.getElem?_map, List.getElem?_map]
  by_cases h : k < m
  · rw [List.getElem?_range h, List.getElem?_reverse (by rw [List.length_range]; exact h), List.length_range, List.getElem?_range (by omega)]
    simp only [Option.map_some]
    congr 2
    omega
  · rw [List.getElem?_eq_none (by rw [List.length_range]; omega), List.getElem?_eq_none (by rw [List.length_reverse, List.length_range]; omega)]
    rfl
/-- the columns of a row, from k down -/
theorem cols_ok {xs ys : List Int} {wide : Option Int} {i L : Nat} (hw : ∀ w, wide = some w → 0 ≤ w) (hi : i < xs.length) (hb : xs.length * ys.length < 10000) :
    ∀ (k : Nat) (η : Store) (r5 r6 r7 : Option D), k ≤ ys.length → Pu η → η[L]? = some (labM xs ys wide (tabP (bandA xs.length ys.length wide) xs.length ys.length (i + 1) ++ rowP (bandA xs.length ys.length wide) ys.length i k)) →
      (∀ l : List Pl, (labM xs ys wide l).pure = true) →
      (∀ j, j ≤ ys.length → (tabP (bandA xs.length ys.length wide) xs.length ys.length (i + 1) ++ rowP (bandA xs.length ys.length wide) ys.length i j).length < 10000) →
      ∃ r5' r6', forL (gN 5) labBody ((List.range k).reverse.map fun j => D.int (j : Nat)) [some (serD xs), some (serD ys), some (wideD wide), some (.ref L), some (.int i), r5, r6, r7] η =
        .nx [some (serD xs), some (serD ys), some (wideD wide), some (.ref L), some (.int i), r5', r6', r7] (η.set L (labM xs ys wide (tabP (bandA xs.length ys.length wide) xs.length ys.length i)))
  | 0, η, r5, r6, r7, hk, hη, h, hpu, hln => by
    refine ⟨r5, r6, ?_⟩
    have e : η.set L (labM xs ys wide (tabP (bandA xs.length ys.length wide) xs.length ys.length i)) = η := by
      rw [tabP_step hi]
      refine List.ext_getElem? fun q => ?_
      by_cases z : L = q
      · subst z
        rw [List.getElem?_set_self (List.getElem?_eq_some_iff.mp h).1, h]
      · rw [List.getElem?_set_ne z]
    rw [e]
    rfl
  | k + 1, η, r5, r6, r7, hk, hη, h, hpu, hln => by
    rw [List.range_succ, List.reverse_append, List.reverse_singleton, List.singleton_append, List.map_cons]
    unfold forL
    have g : (gN 5) (D.int (k : Nat)) [some (serD xs), some (serD ys), some (wideD wide), some (.ref L), some (.int i), r5, r6, r7] η = .ok [some (serD xs), some (serD ys), some (wideD wide), some (.ref L), some (.int i), some (.int (k : Nat)), r6, r7] η := rfl
    rw [g]
    simp only [R.thn_ok]
    have st := rowP_step (A := bandA xs.length ys.length wide) (m := ys.length) (i := i) (k := k) (by omega)
    cases hb' : bandA xs.length ys.length wide (i, k) with
    | true =>
      rw [hb'] at st
      simp only [if_true] at st
      have hd : ∀ q, q ∈ nexts xs.length ys.length (i, k) → (q ∈ tabP (bandA xs.length ys.length wide) xs.length ys.length (i + 1) ++ rowP (bandA xs.length ys.length wide) ys.length i (k + 1) ↔ bandA xs.length ys.length wide q = true) := fun q hq => by
        obtain ⟨hs, h1, h2⟩ := mem_nexts.mp hq
        rw [List.mem_append, mem_tabP, mem_rowP]
        constructor
        · rintro (⟨_, _, _, z⟩ | ⟨_, _, _, z⟩) <;> exact z
        · intro z
          rcases hs with rfl | rfl | rfl
          · exact .inl ⟨Nat.le_refl _, h1, h2, z⟩
          · exact .inr ⟨rfl, Nat.le_refl _, h2, z⟩
          · exact .inl ⟨Nat.le_refl _, h1, h2, z⟩
      have hn : (i, k) ∉ tabP (bandA xs.length ys.length wide) xs.length ys.length (i + 1) ++ rowP (bandA xs.length ys.length wide) ys.length i (k + 1) := fun z => by
        rw [List.mem_append, mem_tabP, mem_rowP] at z
        rcases z with ⟨z, _⟩ | ⟨_, z, _⟩ <;> dsimp only at z <;> omega
      obtain ⟨r6', e⟩ := labBody_yes (p := (i, k)) (r6 := r6) (r7 := r7) hη hw h ⟨hi, by dsimp only; omega, hb'⟩ hn (hln (k + 1) hk) hd
      rw [e]
      dsimp only [onS]
      have hL := (List.getElem?_eq_some_iff.mp h).1
      obtain ⟨r5'', r6'', e2⟩ := cols_ok hw hi hb k (η.set L (labM xs ys wide ((tabP (bandA xs.length ys.length wide) xs.length ys.length (i + 1) ++ rowP (bandA xs.length ys.length wide) ys.length i (k + 1)) ++ [(i, k)]))) (some (.int (k : Nat))) r6' r7 (by omega) (Pu.set hη (hpu _)) (by rw [List.getElem?_set_self hL, List.append_assoc, ← st]) hpu hln
      refine ⟨r5'', r6'', e2.trans ?_⟩
      rw [List.set_set]
    | false =>
      rw [hb'] at st
      simp only [Bool.false_eq_true, if_false, List.append_nil] at st
      cases wide with
      | none => cases hb'
      | some w =>
        have e := labBody_no (η := η) (xs := xs) (ys := ys) (w := w) (p := (i, k)) (L := L) (r6 := r6) (r7 := r7) hη hb'
        have e' : labBody [some (serD xs), some (serD ys), some (wideD (some w)), some (.ref L), some (.int i), some (.int (k : Nat)), r6, r7] η = _ := e
        rw [e']
        dsimp only [onS]
        exact cols_ok hw hi hb k η _ _ _ (by omega) hη (by rw [st]; exact h) hpu hln
end K71
set_option Elab.async false
set_option linter.all false
set_option maxRecDepth 100000
set_option maxHeartbeats 2000000
namespace K71
open PySem PySem.Spec PyProof.Rows L2 Dn
noncomputable def colsF : FS := sFor (fRg itRg3 (fCons (f2 dSub (fCl dLen (fCons (fVar 1) fNil)) (fC (.int 1))) (fCons (f1 dNeg (fC (.int 1))) (fCons (f1 dNeg (fC (.int 1))) fNil)))) (gN 5) labBody
theorem labs_pure (xs ys : List Int) (wide : Option Int) (l : List Pl) : (labM xs ys wide l).pure = true := by
  have := pures_ints (l.map (labP xs ys wide))
  rw [List.map_map] at this
  exact this
theorem colsF_eq {η : Store} {xs ys : List Int} {wide : Option Int} {L i : Nat} {r5 r6 r7 : Option D} (hy : ys.length ≤ 1000) :
    colsF [some (serD xs), some (serD ys), some (wideD wide), some (.ref L), some (.int i), r5, r6, r7] η = forL (gN 5) labBody ((List.range ys.length).reverse.map fun j => D.int (j : Nat)) [some (serD xs), some (serD ys), some (wideD wide), some (.ref L), some (.int i), r5, r6, r7] η := by
  refine sFor_eq ?_
  have h1 : rgS ((ys.length : Int) - 1) = true := by
    unfold rgS
    refine decide_eq_true ⟨?_, ?_⟩ <;> omega
  have h2 : rgS (-1) = true := by decide
  have e : ((ys.length : Int) - 1 - (-1)).toNat = ys.length := by omega
  simp [fRg, fCons, f2, f1, fCl, fVar, fC, fNil, R.of, R.bind, serD, dLen, dSub, dNeg, itRg3, h1, h2, itN]
  have d := down_list ys.length
  rw [List.map_reverse] at d
  rw [← d]
  congr 1
  refine List.map_congr_left fun k _ => ?_
  congr 1
  omega
end K71
set_option Elab.async false
set_option linter.all false
set_option maxRecDepth 100000
set_option maxHeartbeats 2000000
namespace K71
open PySem PySem.Spec PyProof.Rows L2 Dn
theorem rows_ok {xs ys : List Int} {wide : Option Int} {L : Nat} (hw : ∀ w, wide = some w → 0 ≤ w) (hb : xs.length * ys.length < 10000) (hy : ys.length ≤ 1000)
    (hln : ∀ i j, (tabP (bandA xs.length ys.length wide) xs.length ys.length (i + 1) ++ rowP (bandA xs.length ys.length wide) ys.length i j).length < 10000) :
    ∀ (k : Nat) (η : Store) (r4 r5 r6 r7 : Option D), k ≤ xs.length → Pu η → η[L]? = some (labM xs ys wide (tabP (bandA xs.length ys.length wide) xs.length ys.length k)) →
      ∃ ρ', forL (gN 4) colsF ((List.range k).reverse.map fun j => D.int (j : Nat)) [some (serD xs), some (serD ys), some (wideD wide), some (.ref L), r4, r5, r6, r7] η =
        .nx ρ' (η.set L (labM xs ys wide (tabP (bandA xs.length ys.length wide) xs.length ys.length 0))) ∧ ρ'[3]? = some (some (.ref L))
  | 0, η, r4, r5, r6, r7, hk, hη, h => by
    refine ⟨[some (serD xs), some (serD ys), some (wideD wide), some (.ref L), r4, r5, r6, r7], ?_, rfl⟩
    have e : η.set L (labM xs ys wide (tabP (bandA xs.length ys.length wide) xs.length ys.length 0)) = η := by
      refine List.ext_getElem? fun q => ?_
      by_cases z : L = q
      · subst z
        rw [List.getElem?_set_self (List.getElem?_eq_some_iff.mp h).1, h]
      · rw [List.getElem?_set_ne z]
    rw [e]
    rfl
  | k + 1, η, r4, r5, r6, r7, hk, hη, h => by
    rw [List.range_succ, List.reverse_append, List.reverse_singleton, List.singleton_append, List.map_cons]
    unfold forL
    have g : (gN 4) (D.int (k : Nat)) [some (serD xs), some (serD ys), some (wideD wide), some (.ref L), r4, r5, r6, r7] η = .ok [some (serD xs), some (serD ys), some (wideD wide), some (.ref L), some (.int (k : Nat)), r5, r6, r7] η := rfl
    rw [g]
    simp only [R.thn_ok]
    rw [colsF_eq hy]
    have h0 : η[L]? = some (labM xs ys wide (tabP (bandA xs.length ys.length wide) xs.length ys.length (k + 1) ++ rowP (bandA xs.length ys.length wide) ys.length k ys.length)) := by rw [rowP_end, List.append_nil]; exact h
    obtain ⟨r5', r6', e⟩ := cols_ok (i := k) hw (by omega) hb ys.length η r5 r6 r7 (Nat.le_refl _) hη h0 (labs_pure xs ys wide) (fun j _ => hln k j)
    rw [e]
    dsimp only [onS]
    have hL := (List.getElem?_eq_some_iff.mp h).1
    obtain ⟨ρ', e2, h3⟩ := rows_ok hw hb hy hln k (η.set L (labM xs ys wide (tabP (bandA xs.length ys.length wide) xs.length ys.length k))) (some (.int (k : Nat))) r5' r6' r7 (by omega) (Pu.set hη (labs_pure _ _ _ _)) (List.getElem?_set_self hL)
    exact ⟨ρ', e2.trans (by rw [List.set_set]), h3⟩
end K71
set_option Elab.async false
set_option linter.all false
set_option maxRecDepth 100000
set_option maxHeartbeats 2000000
namespace Dn
theorem frzs_pure {n : Nat} {η : Store} {k : Nat} : ∀ {xs : List D}, D.pures xs = true → frzs n η k xs = some xs
  | [], _ => by unfold frzs; rfl
  | x :: xs, h => by
    unfold D.pures at h
    obtain ⟨h1, h2⟩ := Bool.and_eq_true_iff.mp h
    unfold frzs
    rw [frzs_pure h2]
    have : frz n η k x = some x := by
      unfold frz
      cases k <;> simp [h1]
    rw [this]
end Dn
namespace K71
open PySem PySem.Spec PyProof.Rows L2 Dn
/-- all places within the band, in the order of the loops -/
def allP (n m : Nat) (wide : Option Int) : List Pl := tabP (bandA n m wide) n m 0
/-- labels, as told -/
def labsD (xs ys : List Int) (wide : Option Int) : D := .dT ((allP xs.length ys.length wide).map kyP) ((allP xs.length ys.length wide).map fun p => .int (labP xs ys wide p))
theorem told_labels_ok {η : Store} {xs ys : List Int} {wide : Option Int} (hη : Pu η) (hw : ∀ w, wide = some w → 0 ≤ w) (hx : xs.length ≤ 1000) (hy : ys.length ≤ 1000) (hb : xs.length * ys.length < 10000)
    (hln : ∀ i j, (tabP (bandA xs.length ys.length wide) xs.length ys.length (i + 1) ++ rowP (bandA xs.length ys.length wide) ys.length i j).length < 10000) : φ_told_labels [serD xs, serD ys, wideD wide] η = .ok (labsD xs ys wide) η := by
  show exitR η.length (fs_told_labels _ η) = _
  have h0 : (η ++ [labM xs ys wide []])[η.length]? = some (labM xs ys wide (tabP (bandA xs.length ys.length wide) xs.length ys.length xs.length)) := by
    rw [tabP_end]
    simp
  have hη' : Pu (η ++ [labM xs ys wide []]) := by
    show (η ++ [labM xs ys wide []]).all M.pure = true
    rw [List.all_append, hη]
    rfl
  obtain ⟨ρ', e, h3⟩ := rows_ok (L := η.length) hw hb hy hln xs.length (η ++ [labM xs ys wide []]) none none none none (Nat.le_refl _) hη' h0
  have es : (η ++ [labM xs ys wide []]).set η.length (labM xs ys wide (tabP (bandA xs.length ys.length wide) xs.length ys.length 0)) = η ++ [labM xs ys wide (allP xs.length ys.length wide)] := by
    rw [List.set_append_right _ _ (Nat.le_refl _), Nat.sub_self]
    rfl
  rw [es] at e
  have rw_ : fs_told_labels (startD 8 [serD xs, serD ys, wideD wide]) η = .rt (.ref η.length) (η ++ [labM xs ys wide (allP xs.length ys.length wide)]) := by
    have s1 : (sSet 3 fDT) (startD 8 [serD xs, serD ys, wideD wide]) η = .nx [some (serD xs), some (serD ys), some (wideD wide), some (.ref η.length), none, none, none, none] (η ++ [labM xs ys wide []]) := rfl
    have s2 : (sFor (fRg itRg3 (fCons (f2 dSub (fCl dLen (fCons (fVar 0) fNil)) (fC (.int 1))) (fCons (f1 dNeg (fC (.int 1))) (fCons (f1 dNeg (fC (.int 1))) fNil)))) (gN 4) colsF) [some (serD xs), some (serD ys), some (wideD wide), some (.ref η.length), none, none, none, none] (η ++ [labM xs ys wide []]) = .nx ρ' (η ++ [labM xs ys wide (allP xs.length ys.length wide)]) := by
      refine (sFor_eq (xs := (List.range xs.length).reverse.map fun j => D.int (j : Nat)) (η1 := η ++ [labM xs ys wide []]) ?_).trans e
      have h1 : rgS ((xs.length : Int) - 1) = true := by
        unfold rgS
        refine decide_eq_true ⟨?_, ?_⟩ <;> omega
      have h2 : rgS (-1) = true := by decide
      have e : ((xs.length : Int) - 1 - (-1)).toNat = xs.length := by omega
      simp [fRg, fCons, f2, f1, fCl, fVar, fC, fNil, R.of, R.bind, serD, dLen, dSub, dNeg, itRg3, h1, h2, itN]
      have d := down_list xs.length
      rw [List.map_reverse] at d
      rw [← d]
      congr 1
      refine List.map_congr_left fun k _ => ?_
      congr 1
      omega
    have e3 : fs_told_labels = sSeq (sSet 3 fDT) (sSeq (sFor (fRg itRg3 (fCons (f2 dSub (fCl dLen (fCons (fVar 0) fNil)) (fC (.int 1))) (fCons (f1 dNeg (fC (.int 1))) (fCons (f1 dNeg (fC (.int 1))) fNil)))) (gN 4) colsF) (sRet (fVar 3))) := rfl
    rw [e3]
    unfold sSeq
    rw [s1]
    dsimp only
    rw [s2]
    simp [sRet, fVar, h3, R.of, R.thn]
  rw [show (fs_told_labels (startD _ [serD xs, serD ys, wideD wide]) η) = _ from rw_]
  unfold exitR
  dsimp only
  rw [List.take_left, if_pos hη]
  have fz : frz η.length (η ++ [labM xs ys wide (allP xs.length ys.length wide)]) 8 (.ref η.length) = some (labsD xs ys wide) := by
    unfold frz
    have hp : (D.ref η.length).pure = false := rfl
    rw [hp]
    simp only [Bool.false_eq_true, if_false, Nat.lt_irrefl]
    have hg : (η ++ [labM xs ys wide (allP xs.length ys.length wide)])[η.length]? = some (labM xs ys wide (allP xs.length ys.length wide)) := by simp
    rw [hg]
    unfold labM
    dsimp only
    rw [frzs_pure (by have := labs_pure xs ys wide (allP xs.length ys.length wide); exact this)]
    rfl
  rw [fz]
end K71
set_option Elab.async false
set_option linter.all false
set_option maxRecDepth 100000
set_option maxHeartbeats 2000000
namespace K71
open PySem PySem.Spec PyProof.Rows L2 Dn
theorem rowP_len {A : Pl → Bool} {m i k : Nat} : (rowP A m i k).length ≤ m := by
  unfold rowP
  refine Nat.le_trans (List.length_filter_le _ _) ?_
  rw [List.length_map, List.length_reverse, List.length_range']
  omega
theorem flat_len {α β : Type} {f : α → List β} {m : Nat} (h : ∀ a, (f a).length ≤ m) : ∀ l : List α, (l.flatMap f).length ≤ l.length * m
  | [] => by simp
  | a :: l => by
    rw [List.flatMap_cons, List.length_append, List.length_cons, Nat.succ_mul]
    have := flat_len h l
    have := h a
    omega
theorem tabP_len {A : Pl → Bool} {n m i : Nat} : (tabP A n m i).length ≤ n * m := by
  unfold tabP
  refine Nat.le_trans (flat_len (fun a => rowP_len) _) ?_
  rw [List.length_reverse, List.length_range']
  exact Nat.mul_le_mul_right _ (Nat.sub_le _ _)
/-- for series that the program takes -/
theorem told_labels_40 {η : Store} {xs ys : List Int} {wide : Option Int} (hη : Pu η) (hw : ∀ w, wide = some w → 0 ≤ w) (hx : xs.length ≤ 40) (hy : ys.length ≤ 40) : φ_told_labels [serD xs, serD ys, wideD wide] η = .ok (labsD xs ys wide) η := by
  have hm : xs.length * ys.length ≤ 40 * 40 := Nat.mul_le_mul hx hy
  refine told_labels_ok hη hw (by omega) (by omega) (by omega) fun i j => ?_
  rw [List.length_append]
  have h1 : (tabP (bandA xs.length ys.length wide) xs.length ys.length (i + 1)).length ≤ xs.length * ys.length := tabP_len
  have h2 : (rowP (bandA xs.length ys.length wide) ys.length i j).length ≤ ys.length := rowP_len
  omega
theorem mem_allP {n m : Nat} {wide : Option Int} {p : Pl} : p ∈ allP n m wide ↔ DmP n m wide p := by
  unfold allP DmP
  rw [mem_tabP]
  exact ⟨fun h => h.2, fun h => ⟨Nat.zero_le _, h⟩⟩
instance {n m : Nat} {wide : Option Int} {p : Pl} : Decidable (DmP n m wide p) := by unfold DmP; exact inferInstance
theorem labs_in {η : Store} {xs ys : List Int} {wide : Option Int} (p : Pl) : dIn η (plD p) (labsD xs ys wide) = some (.bl (decide (DmP xs.length ys.length wide p))) := by
  have e : dictAt η (labsD xs ys wide) (plD p) = some (if p ∈ allP xs.length ys.length wide then some (.int (labP xs ys wide p)) else none) := by
    unfold dictAt labsD
    dsimp only
    rw [tkey_pl]
    dsimp only [Option.map]
    rw [look_places (fun p => .int (labP xs ys wide p)) p]
  unfold dIn
  rw [e]
  by_cases q : p ∈ allP xs.length ys.length wide
  · simp [q, mem_allP.mp q]
  · have : ¬ DmP xs.length ys.length wide p := fun z => q (mem_allP.mpr z)
    simp [q, this]
theorem labs_ix {η : Store} {xs ys : List Int} {wide : Option Int} {p : Pl} (h : DmP xs.length ys.length wide p) : dIx η (labsD xs ys wide) (plD p) = some (.int (labP xs ys wide p)) := by
  have e : dictAt η (labsD xs ys wide) (plD p) = some (if p ∈ allP xs.length ys.length wide then some (.int (labP xs ys wide p)) else none) := by
    unfold dictAt labsD
    dsimp only
    rw [tkey_pl]
    dsimp only [Option.map]
    rw [look_places (fun p => .int (labP xs ys wide p)) p]
  unfold dIx
  rw [e, if_pos (mem_allP.mpr h)]
end K71
set_option Elab.async false
set_option linter.all false
set_option maxRecDepth 100000
set_option maxHeartbeats 2000000
/-! Dn, 31: readings, by simp; plain. -/
namespace Dn
open PySem PySem.Spec PyProof.Rows L2
section
variable {ρ : Ev} {η : Store}
@[simp] theorem e_var {i : Nat} : fVar i ρ η = R.of η (ρ[i]?.bind id) := rfl
@[simp] theorem e_C {d : D} : fC d ρ η = .ok d η := rfl
@[simp] theorem e_nil : fNil ρ η = .ok [] η := rfl
@[simp] theorem e_cons {f : FE} {g : FA} : fCons f g ρ η = (f ρ η).bind fun d η1 => (g ρ η1).bind fun ds η2 => .ok (d :: ds) η2 := rfl
theorem fits_le {α : Type} {xs : List α} (h : xs.length ≤ 1000000) : fits xs = true := by
  unfold fits
  rw [sizeLine_eq]
  exact decide_eq_true (by omega)
@[simp] theorem fits0 {α : Type} : fits ([] : List α) = true := fits_le (by simp)
@[simp] theorem fits1 {α : Type} {a : α} : fits [a] = true := fits_le (by simp)
@[simp] theorem fits2 {α : Type} {a b : α} : fits [a, b] = true := fits_le (by simp)
@[simp] theorem fits3 {α : Type} {a b c : α} : fits [a, b, c] = true := fits_le (by simp)
@[simp] theorem fits4 {α : Type} {a b c d : α} : fits [a, b, c, d] = true := fits_le (by simp)
@[simp] theorem fits5 {α : Type} {a b c d e : α} : fits [a, b, c, d, e] = true := fits_le (by simp)
@[simp] theorem fits6 {α : Type} {a b c d e f : α} : fits [a, b, c, d, e, f] = true := fits_le (by simp)
@[simp] theorem e_tup {g : FA} : fTup g ρ η = (g ρ η).bind fun ds η1 => if fits ds then .ok (.tup ds) η1 else .stk := rfl
@[simp] theorem e_lst {g : FA} : fLst g ρ η = (g ρ η).bind fun ds η1 => if fits ds then .ok (.lst ds) η1 else .stk := rfl
@[simp] theorem e_lstM {g : FA} : fLstM g ρ η = (g ρ η).bind fun ds η1 => if fits ds then .ok (.ref η1.length) (η1 ++ [.l ds]) else .stk := rfl
@[simp] theorem e_1 {op : Store → D → Option D} {f : FE} : f1 op f ρ η = (f ρ η).bind fun x η1 => R.of η1 (op η1 x) := rfl
@[simp] theorem e_2 {op : Store → D → D → Option D} {f g : FE} : f2 op f g ρ η = (f ρ η).bind fun x η1 => (g ρ η1).bind fun y η2 => R.of η2 (op η2 x y) := rfl
@[simp] theorem e_Cl {op : Store → List D → Option D} {g : FA} : fCl op g ρ η = (g ρ η).bind fun ds η1 => R.of η1 (op η1 ds) := rfl
@[simp] theorem e_test {f : FE} : fTest f ρ η = (f ρ η).bind fun d η1 => R.of η1 (unB d) := rfl
@[simp] theorem e_and {f g : FT} : fAnd f g ρ η = (f ρ η).bind fun b η1 => if b then g ρ η1 else .ok false η1 := rfl
@[simp] theorem e_or {f g : FT} : fOr f g ρ η = (f ρ η).bind fun b η1 => if b then .ok true η1 else g ρ η1 := rfl
@[simp] theorem e_not {f : FT} : fNot f ρ η = (f ρ η).bind fun b η1 => .ok (!b) η1 := rfl
@[simp] theorem e_andV {f g : FE} : fAndV f g ρ η = (f ρ η).bind fun d η1 => (R.of η1 (unB d)).bind fun b η1 => if b then g ρ η1 else .ok (.bl false) η1 := rfl
@[simp] theorem e_orV {f g : FE} : fOrV f g ρ η = (f ρ η).bind fun d η1 => (R.of η1 (unB d)).bind fun b η1 => if b then .ok (.bl true) η1 else g ρ η1 := rfl
@[simp] theorem e_notV {f : FE} : fNotV f ρ η = (f ρ η).bind fun d η1 => (R.of η1 (unB d)).bind fun b η1 => .ok (.bl !b) η1 := rfl
@[simp] theorem e_if {c : FT} {f g : FE} : fIf c f g ρ η = (c ρ η).bind fun b η1 => if b then f ρ η1 else g ρ η1 := rfl
@[simp] theorem e_chain {o o' : Store → D → D → Option D} {f g h : FE} : fChain o o' f g h ρ η = (f ρ η).bind fun x η1 => (g ρ η1).bind fun y η2 => (R.of η2 ((o η2 x y).bind unB)).bind fun b η2 => if b then (h ρ η2).bind fun z η3 => R.of η3 (o' η3 y z) else .ok (.bl false) η2 := rfl
@[simp] theorem e_noPart : fNoPart ρ η = .ok none η := rfl
@[simp] theorem e_part {f : FE} : fPart f ρ η = (f ρ η).bind fun d η1 => R.of η1 ((unI d).map some) := rfl
@[simp] theorem e_sl {f : FE} {l h : FO} : fSl f l h ρ η = (f ρ η).bind fun o η1 => (l ρ η1).bind fun lo η2 => (h ρ η2).bind fun hi η3 => R.of η3 (dSl η3 o lo hi) := rfl
@[simp] theorem e_Ca {n : Nat} {φ : FF} {g : FA} : fCa n φ g ρ η = (g ρ η).bind fun ds η1 => if ds.length = n then φ ds η1 else .stk := rfl
@[simp] theorem e_CaK {n : Nat} {gd : List D → List D → List D} {φ : FF} {g h : FA} : fCaK n gd φ g h ρ η = (g ρ η).bind fun ds η1 => (h ρ η1).bind fun es η2 => if (gd ds es).length = n then φ (gd ds es) η2 else .stk := rfl
@[simp] theorem e_gd {α : Type} {n : Nat} {us ws : List α} : gd_ n us ws = if us.length = n then us ++ ws else [] := rfl
@[simp] theorem e_it {f : FE} : fIt f ρ η = (f ρ η).bind fun d η1 => R.of η1 (itOf η1 d) := rfl
@[simp] theorem e_rg {o : List D → Option ItD} {g : FA} : fRg o g ρ η = (g ρ η).bind fun ds η1 => R.of η1 (o ds) := rfl
@[simp] theorem e_zip {g : FA} : fZip g ρ η = (g ρ η).bind fun ds η1 => R.of η1 (itZip η1 ds) := rfl
@[simp] theorem e_enum {g : FA} : fEnum g ρ η = (g ρ η).bind fun ds η1 => R.of η1 (itEn ds) := rfl
@[simp] theorem e_yes : fYes ρ η = .ok true η := rfl
@[simp] theorem e_DT : fDT ρ η = .ok (.ref η.length) (η ++ [.dT [] []]) := rfl
@[simp] theorem e_DK0 : fDK0 ρ η = .ok (.dK [] []) η := rfl
@[simp] theorem e_DK1 {k : Str} {f : FE} : fDK1 k f ρ η = (f ρ η).bind fun d η1 => .ok (.dK [.inr k] [d]) η1 := rfl
@[simp] theorem e_LRg {f : FE} : fLRg f ρ η = (f ρ η).bind fun d η1 => R.of η1 ((rgL [d]).map .lst) := rfl
@[simp] theorem e_Mt {ty : Ty} {op : Store → D → List D → Option (D × Store)} {f : FE} {g : FA} : fMt ty op f g ρ η = (f ρ η).bind fun o η1 => if tyD η1 o = some ty then (g ρ η1).bind fun ds η2 => match op η2 o ds with
  | some (d, η3) => .ok d η3
  | none => .stk else .stk := rfl
@[simp] theorem e_heard {cs : List Str} {fe : FE} : fHeard cs fe ρ η = heardR cs (fe ρ η) := rfl
@[simp] theorem e_val {cs : List Str} {f : FE} : fVal cs f ρ η = (f ρ η).bind fun d η1 => match d with
  | .exc c x => if c ∈ cs then .ok x η1 else .stk
  | _ => .stk := rfl
@[simp] theorem heardR_ok {cs : List Str} {d : D} : heardR cs (.ok d η) = .ok (.tup [.non, d]) η := rfl
@[simp] theorem heardR_rse {cs : List Str} {c : Str} {d : D} : heardR cs (.rse c d η) = if c ∈ cs then .ok (.tup [.exc c d, .non]) η else .stk := rfl
/-! targets -/
@[simp] theorem e_gN {i : Nat} {d : D} : gN i d ρ η = .ok (ρ.set i (some d)) η := rfl
@[simp] theorem e_gsN : gsN [] ρ η = .ok ρ η := rfl
@[simp] theorem e_gsC {g : FG} {h : FGs} {d : D} {ds : List D} : gsC g h (d :: ds) ρ η = (g d ρ η).bind fun ρ1 η1 => h ds ρ1 η1 := rfl
@[simp] theorem e_gT {n : Nat} {h : FGs} {ds : List D} : gT n h (.tup ds) ρ η = if ds.length = n then h ds ρ η else .stk := rfl
@[simp] theorem e_gSb {fo fi : FE} {d : D} : gSb fo fi d ρ η = (fo ρ η).bind fun o η1 => (fi ρ η1).bind fun i η2 => R.st ρ (dSet η2 o i d) := rfl
@[simp] theorem R.st_some {α : Type} {a : α} : R.st a (some η) = .ok a η := rfl
@[simp] theorem wipeD_nil : wipeD ρ [] = ρ := rfl
@[simp] theorem wipeD_cons {v : Nat} {vs : List Nat} : wipeD ρ (v :: vs) = (wipeD ρ vs).set v none := rfl
/-! statements -/
@[simp] theorem e_sNil : sNil ρ η = .nx ρ η := rfl
theorem e_sSeq {f g : FS} : sSeq f g ρ η = match f ρ η with
  | .nx ρ' η' => g ρ' η'
  | r => r := rfl
theorem seq_nx {f g : FS} {ρ' : Ev} {η' : Store} (h : f ρ η = .nx ρ' η') : sSeq f g ρ η = g ρ' η' := by unfold sSeq; rw [h]
theorem seq_rt {f g : FS} {d : D} {η' : Store} (h : f ρ η = .rt d η') : sSeq f g ρ η = .rt d η' := by unfold sSeq; rw [h]
theorem seq_rse {f g : FS} {c : Str} {d : D} {η' : Store} (h : f ρ η = .rse c d η') : sSeq f g ρ η = .rse c d η' := by unfold sSeq; rw [h]
@[simp] theorem e_sSet {i : Nat} {f : FE} : sSet i f ρ η = (f ρ η).thn fun d η1 => .nx (ρ.set i (some d)) η1 := rfl
@[simp] theorem e_sAsg {f : FE} {g : FG} : sAsg f g ρ η = (f ρ η).thn fun d η1 => (g d ρ η1).thn fun ρ' η2 => .nx ρ' η2 := rfl
@[simp] theorem e_sPar {i j : Nat} {g : FA} : sPar i j g ρ η = (g ρ η).thn fun ds η1 => match ds with
  | [x, y] => .nx ((ρ.set i (some x)).set j (some y)) η1
  | _ => .stk := rfl
@[simp] theorem e_sIf {c : FT} {f g : FS} : sIf c f g ρ η = (c ρ η).thn fun b η1 => if b then f ρ η1 else g ρ η1 := rfl
@[simp] theorem e_sRet {f : FE} : sRet f ρ η = (f ρ η).thn fun d η1 => .rt d η1 := rfl
@[simp] theorem e_sExp {f : FE} : sExp f ρ η = (f ρ η).thn fun _ η1 => .nx ρ η1 := rfl
@[simp] theorem e_sRaise {c : Str} {f : FE} : sRaise c f ρ η = (f ρ η).thn fun d η1 => .rse c d η1 := rfl
@[simp] theorem onS_nx {k : Ev → Store → RS} : onS (.nx ρ η) k = k ρ η := rfl
@[simp] theorem onS_ct {k : Ev → Store → RS} : onS (.ct ρ η) k = k ρ η := rfl
@[simp] theorem onS_rt {k : Ev → Store → RS} {d : D} : onS (.rt d η) k = .rt d η := rfl
@[simp] theorem onS_rse {k : Ev → Store → RS} {c : Str} {d : D} : onS (.rse c d η) k = .rse c d η := rfl
/-! operators -/
@[simp] theorem unB_bl {b : Bool} : unB (.bl b) = some b := rfl
@[simp] theorem unI_int {i : Int} : unI (.int i) = some i := rfl
@[simp] theorem add_int {i j : Int} : dAdd η (.int i) (.int j) = some (.int (i + j)) := rfl
@[simp] theorem sub_int {i j : Int} : dSub η (.int i) (.int j) = some (.int (i - j)) := rfl
@[simp] theorem neg_int {i : Int} : dNeg η (.int i) = some (.int (-i)) := rfl
@[simp] theorem lt_int {i j : Int} : dLt η (.int i) (.int j) = some (.bl (decide (i < j))) := rfl
@[simp] theorem le_int {i j : Int} : dLe η (.int i) (.int j) = some (.bl (decide (i ≤ j))) := rfl
@[simp] theorem gt_int {i j : Int} : dGt η (.int i) (.int j) = some (.bl (decide (j < i))) := rfl
@[simp] theorem ge_int {i j : Int} : dGe η (.int i) (.int j) = some (.bl (decide (j ≤ i))) := rfl
theorem small_depth {p : PyData} {q : PyData} (h : p.depth ≤ 64) : min p.depth q.depth ≤ 64 := Nat.le_trans (Nat.min_le_left _ _) h
@[simp] theorem eq_int {i j : Int} : dEq η (.int i) (.int j) = some (.bl (decide (i = j))) := by
  show (if min (PyData.int i).depth (PyData.int j).depth ≤ 64 then some (D.bl (PyData.eqv (.int i) (.int j))) else none) = _
  rw [if_pos (small_depth (show (PyData.int i).depth ≤ 64 by simp [PyData.depth]))]
  rfl
@[simp] theorem ne_int {i j : Int} : dNe η (.int i) (.int j) = some (.bl (!decide (i = j))) := by
  show (if min (PyData.int i).depth (PyData.int j).depth ≤ 64 then some (D.bl (!PyData.eqv (.int i) (.int j))) else none) = _
  rw [if_pos (small_depth (show (PyData.int i).depth ≤ 64 by simp [PyData.depth]))]
  rfl
@[simp] theorem eq_str {i j : Str} : dEq η (.str i) (.str j) = some (.bl (decide (i = j))) := by
  show (if min (PyData.str i).depth (PyData.str j).depth ≤ 64 then some (D.bl (PyData.eqv (.str i) (.str j))) else none) = _
  rw [if_pos (small_depth (show (PyData.str i).depth ≤ 64 by simp [PyData.depth]))]
  by_cases h : i = j <;> simp [PyData.eqv, h]
@[simp] theorem ne_str {i j : Str} : dNe η (.str i) (.str j) = some (.bl (!decide (i = j))) := by
  show (if min (PyData.str i).depth (PyData.str j).depth ≤ 64 then some (D.bl (!PyData.eqv (.str i) (.str j))) else none) = _
  rw [if_pos (small_depth (show (PyData.str i).depth ≤ 64 by simp [PyData.depth]))]
  by_cases h : i = j <;> simp [PyData.eqv, h]
@[simp] theorem eq_bl {i j : Bool} : dEq η (.bl i) (.bl j) = some (.bl (decide (i = j))) := by
  show (if min (PyData.bool i).depth (PyData.bool j).depth ≤ 64 then some (D.bl (PyData.eqv (.bool i) (.bool j))) else none) = _
  rw [if_pos (small_depth (show (PyData.bool i).depth ≤ 64 by simp [PyData.depth]))]
  cases i <;> cases j <;> rfl
@[simp] theorem len_tup {xs : List D} : dLen η [.tup xs] = some (.int xs.length) := rfl
@[simp] theorem len_lst {xs : List D} : dLen η [.lst xs] = some (.int xs.length) := rfl
@[simp] theorem abs_int {i : Int} : dAbs η [.int i] = some (.int (if i < 0 then -i else i)) := rfl
@[simp] theorem int_int {i : Int} : dInt η [.int i] = some (.int i) := rfl
@[simp] theorem int_bl {b : Bool} : dInt η [.bl b] = some (.int (if b then 1 else 0)) := rfl
@[simp] theorem lst_lst {xs : List D} : lstOf η (.lst xs) = some xs := rfl
@[simp] theorem seq_tup {xs : List D} : seqOf η (.tup xs) = some xs := rfl
@[simp] theorem seq_lst {xs : List D} : seqOf η (.lst xs) = some xs := rfl
@[simp] theorem tuple_lst {xs : List D} : dTuple η [.lst xs] = some (.tup xs) := rfl
@[simp] theorem list_tup {xs : List D} : dList η [.tup xs] = some (.lst xs) := rfl
@[simp] theorem list_lst {xs : List D} : dList η [.lst xs] = some (.lst xs) := rfl
@[simp] theorem it_tup {xs : List D} : itOf η (.tup xs) = some (itF xs) := rfl
@[simp] theorem it_lst {xs : List D} : itOf η (.lst xs) = some (itF xs) := rfl
@[simp] theorem en_tup {xs : List D} : itEn [.tup xs] = some (itF (numD 0 xs)) := rfl
@[simp] theorem en_lst {xs : List D} : itEn [.lst xs] = some (itF (numD 0 xs)) := rfl
@[simp] theorem isN_non {x : D} : dIsN η x .non = some (.bl (isNon x)) := rfl
@[simp] theorem notN_non {x : D} : dNotN η x .non = some (.bl (!isNon x)) := rfl
@[simp] theorem isNon_int {i : Int} : isNon (.int i) = false := rfl
@[simp] theorem isNon_non : isNon .non = true := rfl
@[simp] theorem isi_eq {b : Ty} {d : D} : dIsi b η d = (tyD η d).map fun a => .bl (isTy a b) := rfl
@[simp] theorem ty_non : tyD η .non = some .non := rfl
@[simp] theorem ty_bl {b : Bool} : tyD η (.bl b) = some .bl := rfl
@[simp] theorem ty_int {i : Int} : tyD η (.int i) = some .int := rfl
@[simp] theorem ty_str {x : Str} : tyD η (.str x) = some .str := rfl
@[simp] theorem ty_tup {xs : List D} : tyD η (.tup xs) = some .tup := rfl
@[simp] theorem ty_lst {xs : List D} : tyD η (.lst xs) = some .lst := rfl
@[simp] theorem ty_dK {ks : List Key} {xs : List D} : tyD η (.dK ks xs) = some .dic := rfl
theorem ix_tup {xs : List D} {i : Int} : dIx η (.tup xs) (.int i) = atI xs i := rfl
theorem ix_lst {xs : List D} {i : Int} : dIx η (.lst xs) (.int i) = atI xs i := rfl
theorem atI_nat {α : Type} {xs : List α} {i : Nat} (h : i < xs.length) : atI xs (i : Int) = some xs[i] := by
  unfold atI ixN
  rw [if_pos (by omega), if_pos (by omega)]
  show xs[((i : Int)).toNat]? = _
  rw [Int.toNat_natCast, List.getElem?_eq_getElem h]
theorem atI_zero {α : Type} {x : α} {xs : List α} : atI (x :: xs) 0 = some x := atI_nat (i := 0) (by simp)
theorem atI_one {α : Type} {x y : α} {xs : List α} : atI (x :: y :: xs) 1 = some y := atI_nat (i := 1) (by simp)
theorem atI_two {α : Type} {x y z : α} {xs : List α} : atI (x :: y :: z :: xs) 2 = some z := atI_nat (i := 2) (by simp)
theorem atI_three {α : Type} {x y z u : α} {xs : List α} : atI (x :: y :: z :: u :: xs) 3 = some u := atI_nat (i := 3) (by simp)
@[simp] theorem ixt0 {x : D} {xs : List D} : dIx η (.tup (x :: xs)) (.int 0) = some x := atI_zero
@[simp] theorem ixt1 {x y : D} {xs : List D} : dIx η (.tup (x :: y :: xs)) (.int 1) = some y := atI_one
@[simp] theorem ixt2 {x y z : D} {xs : List D} : dIx η (.tup (x :: y :: z :: xs)) (.int 2) = some z := atI_two
@[simp] theorem ixt3 {x y z u : D} {xs : List D} : dIx η (.tup (x :: y :: z :: u :: xs)) (.int 3) = some u := atI_three
@[simp] theorem ixl0 {x : D} {xs : List D} : dIx η (.lst (x :: xs)) (.int 0) = some x := atI_zero
theorem atI_last {α : Type} {xs : List α} (h : xs ≠ []) : atI xs (-1) = some (xs.getLast h) := by
  have hl : 0 < xs.length := List.length_pos_iff.mpr h
  unfold atI ixN
  rw [if_neg (by decide), if_pos (by omega)]
  show xs[(-1 + (xs.length : Int)).toNat]? = _
  rw [show (-1 + (xs.length : Int)).toNat = xs.length - 1 by omega, List.getLast_eq_getElem, List.getElem?_eq_getElem]
/-! loops that do not change the store -/
/-- for x in l: b, where b may tell at once -/
theorem forL_find {g : FG} {b : FS} {η : Store} {α : Type} (f : α → D) (I : Ev → Prop) (bad : α → Bool) (r : α → D) : ∀ (l : List α) (ρ : Ev), I ρ → (∀ a ∈ l, ∀ ρ, I ρ → ∃ ρ1, g (f a) ρ η = .ok ρ1 η ∧ (if bad a then b ρ1 η = .rt (r a) η else ∃ ρ2, b ρ1 η = .nx ρ2 η ∧ I ρ2)) →
    (match l.find? bad with
      | some a => forL g b (l.map f) ρ η = .rt (r a) η
      | none => ∃ ρ', forL g b (l.map f) ρ η = .nx ρ' η ∧ I ρ')
  | [], ρ, hi, _ => ⟨ρ, rfl, hi⟩
  | a :: l, ρ, hi, h => by
    obtain ⟨ρ1, h1, h2⟩ := h a List.mem_cons_self ρ hi
    rw [List.find?_cons, List.map_cons]
    cases hb : bad a with
    | true =>
      rw [hb] at h2
      simp only [if_true] at h2
      simp only [forL, h1, R.thn_ok, h2, onS_rt]
    | false =>
      rw [hb] at h2
      simp only [Bool.false_eq_true, if_false] at h2
      obtain ⟨ρ2, h3, h4⟩ := h2
      have ih := forL_find (g := g) (b := b) f I bad r l ρ2 h4 fun c hc => h c (List.mem_cons_of_mem _ hc)
      simp only [forL, h1, R.thn_ok, h3, onS_nx]
      exact ih
end
/-! exits -/
theorem frz_pure {n k : Nat} {η : Store} {d : D} (h : d.pure = true) : frz n η k d = some d := by
  unfold frz
  cases k <;> simp [h]
end Dn
set_option Elab.async false
set_option linter.all false
set_option maxRecDepth 100000
set_option maxHeartbeats 2000000
namespace K71
open PySem PySem.Spec PyProof.Rows L2 Dn
/-! ### places, compared -/
theorem toP_pl {η : Store} {i j : Int} : toP η (.tup [.int i, .int j]) = some (.tuple [.int i, .int j]) := rfl
theorem eqv_pl {i j k l : Int} : PyData.eqv (.tuple [.int i, .int j]) (.tuple [.int k, .int l]) = decide (i = k ∧ j = l) := by
  by_cases h1 : i = k <;> by_cases h2 : j = l <;> simp [PyData.eqv, PyData.eqvAll, h1, h2]
@[simp] theorem eq_pl {η : Store} {i j k l : Int} : dEq η (.tup [.int i, .int j]) (.tup [.int k, .int l]) = some (.bl (decide (i = k ∧ j = l))) := by
  unfold dEq
  rw [toP_pl, toP_pl]
  dsimp only
  rw [if_pos (small_depth (by simp [PyData.depth, PyData.depthAll])), eqv_pl]
@[simp] theorem ne_pl {η : Store} {i j k l : Int} : dNe η (.tup [.int i, .int j]) (.tup [.int k, .int l]) = some (.bl (!decide (i = k ∧ j = l))) := by
  unfold dNe
  rw [toP_pl, toP_pl]
  dsimp only
  rw [if_pos (small_depth (by simp [PyData.depth, PyData.depthAll])), eqv_pl]
theorem pl_eq {p : Pl} : plD p = .tup [.int p.1, .int p.2] := rfl
@[simp] theorem ser_len {η : Store} {xs : List Int} : dLen η [serD xs] = some (.int xs.length) := by simp [serD]
/-! ### told_walk -/
section
variable {xs ys : List Int} {wide : Option Int} {η : Store} {p : Pl} {r4 r5 r6 r7 : Option D}
theorem tw_c0 (hη : Pu η) (hw : ∀ w, wide = some w → 0 ≤ w) : told_walk_c0 [some (serD xs), some (serD ys), some (labsD xs ys wide), some (plD p), r4, r5, r6, r7] η = .ok (.lst ((nxA xs.length ys.length wide p).map plD)) η := by
  have tn := told_next_ok (η := η) (xs := xs) (ys := ys) (p := p) hη
  have h := fLc_list (it := fIt (fCa 3 φ_told_next (fCons (fVar 0) (fCons (fVar 1) (fCons (fVar 3) fNil))))) (g := gN 6) (tt := told_walk_t0) (te := told_walk_e0) (vs := [6]) (ρ := [some (serD xs), some (serD ys), some (labsD xs ys wide), some (plD p), r4, r5, r6, r7]) (η := η)
    plD (fun q => decide (DmP xs.length ys.length wide q)) plD (nexts xs.length ys.length p) (by simp [tn]) (by
      refine Nat.le_trans (List.length_filter_le _ _) ?_
      show 3 ≤ sizeLine
      rw [sizeLine_eq]
      omega) (fun q hq => ⟨_, rfl, by simp [told_walk_t0, labs_in], fun _ => by simp [told_walk_e0]⟩)
  refine h.trans ?_
  rw [show (nexts xs.length ys.length p).filter (fun q => decide (DmP xs.length ys.length wide q)) = nxA xs.length ys.length wide p from ?_]
  refine List.filter_congr fun q hq => ?_
  obtain ⟨_, q1, q2⟩ := mem_nexts.mp hq
  by_cases hb : bandA xs.length ys.length wide q = true
  · rw [hb]
    exact decide_eq_true ⟨q1, q2, hb⟩
  · rw [Bool.eq_false_iff.mpr hb]
    exact decide_eq_false fun z => hb z.2.2
theorem nxA_len (n m : Nat) (wide : Option Int) (p : Pl) : (nxA n m wide p).length ≤ 3 :=
  Nat.le_trans (List.length_filter_le _ _) (Nat.le_trans (List.length_filter_le _ _) (Nat.le_refl _))
theorem nxA_dm {n m : Nat} {q : Pl} (h : q ∈ nxA n m wide p) : DmP n m wide q := by
  obtain ⟨h1, h2⟩ := List.mem_filter.mp h
  obtain ⟨_, q1, q2⟩ := mem_nexts.mp h1
  exact ⟨q1, q2, h2⟩
theorem tw_c1 {l : List Pl} (hl : l.length ≤ 3) (hd : ∀ q ∈ l, DmP xs.length ys.length wide q) : told_walk_c1 [some (serD xs), some (serD ys), some (labsD xs ys wide), some (plD p), r4, some (.lst (l.map plD)), r6, r7] η = .ok (.lst (l.map fun q => .int (labP xs ys wide q))) η :=
  fLc_all plD (fun q => .int (labP xs ys wide q)) l (by simp) (by rw [sizeLine_eq]; omega) fun q hq => ⟨_, rfl, by simp [told_walk_e1, labs_ix (hd q hq)]⟩
theorem tw_c2 {l : List Pl} {m : Int} (hl : l.length ≤ 3) (hd : ∀ q ∈ l, DmP xs.length ys.length wide q) : told_walk_c2 [some (serD xs), some (serD ys), some (labsD xs ys wide), some (plD p), r4, some (.lst (l.map plD)), r6, some (.int m)] η = .ok (.lst ((l.filter fun q => decide (labP xs ys wide q = m)).map plD)) η :=
  fLc_list plD (fun q => decide (labP xs ys wide q = m)) plD l (by simp) (by rw [sizeLine_eq]; omega) fun q hq => ⟨_, rfl, by simp [told_walk_t1, labs_ix (hd q hq)], fun _ => by simp [told_walk_e2]⟩
theorem tw_loop (hw : ∀ w, wide = some w → 0 ≤ w) (hx : 1 ≤ xs.length) (hy : 1 ≤ ys.length) {L : Nat} : ∀ (r : Nat) (p : Pl) (acc : List Pl) (η : Store) (r5 r6 r7 : Option D), rkP xs.length ys.length p ≤ r → acc.length + r < 1000000 → DmP xs.length ys.length wide p → Pu η → η[L]? = some (.l (acc.map plD)) →
    ∃ (w : List Pl) (ρ' : Ev), IsPath (nxA xs.length ys.length wide) (endP xs.length ys.length) (p :: w) ∧ costC xs ys (p :: w) = labP xs ys wide p ∧
      told_walk_l0 [some (serD xs), some (serD ys), some (labsD xs ys wide), some (plD p), some (.ref L), r5, r6, r7] η = .nx ρ' (η.set L (.l ((acc ++ w).map plD))) ∧ ρ'[4]? = some (some (.ref L))
  | r, p, acc, η, r5, r6, r7, hr, hb, hp, hη, h => by
    have hL := (List.getElem?_eq_some_iff.mp h).1
    by_cases he : p = endP xs.length ys.length
    · refine ⟨[], [some (serD xs), some (serD ys), some (labsD xs ys wide), some (plD p), some (.ref L), r5, r6, r7], he, ?_, sWh_stop (c := told_walk_w0) (b := told_walk_b0) (η1 := η) ?_ |>.trans ?_, rfl⟩
      · rw [labP_eq hw hp, he, (down _ _ _ hw).stop]
        simp [costC, minI]
      · subst he
        simp [told_walk_w0, pl_eq, endP]
        omega
      · rw [List.append_nil]
        congr 1
        refine (List.ext_getElem? fun q => ?_).symm
        by_cases z : L = q
        · subst z
          rw [List.getElem?_set_self hL, h]
        · rw [List.getElem?_set_ne z]
    · have hne := (down xs.length ys.length wide hw).go p hp he
      obtain ⟨m, hm⟩ := minI_some (l := (nxA xs.length ys.length wide p).map (labP xs ys wide)) (by intro z; rw [List.map_eq_nil_iff] at z; exact hne z)
      obtain ⟨q0, hq0, e0⟩ := List.mem_map.mp (minI_spec hm).1
      have hf : (nxA xs.length ys.length wide p).filter (fun q => decide (labP xs ys wide q = m)) ≠ [] := by
        intro z
        have : q0 ∈ (nxA xs.length ys.length wide p).filter (fun q => decide (labP xs ys wide q = m)) := List.mem_filter.mpr ⟨hq0, decide_eq_true e0⟩
        rw [z] at this
        cases this
      obtain ⟨q, rest, hq⟩ := List.exists_cons_of_ne_nil hf
      have hqm : q ∈ (nxA xs.length ys.length wide p).filter (fun q => decide (labP xs ys wide q = m)) := by rw [hq]; exact List.mem_cons_self
      obtain ⟨hqn, hql⟩ := List.mem_filter.mp hqm
      have hql : labP xs ys wide q = m := of_decide_eq_true hql
      obtain ⟨d1, d2⟩ := (down xs.length ys.length wide hw).dec p q hp hqn
      match r, hr with
      | 0, hr => omega
      | r + 1, hr =>
      have hu : unAll Dn.unI ((nxA xs.length ys.length wide p).map fun q => .int (labP xs ys wide q)) = some ((nxA xs.length ys.length wide p).map (labP xs ys wide)) := unAll_int _ _
      obtain ⟨w, ρ', h1, h2, h3, h4⟩ := tw_loop hw hx hy (L := L) r q (acc ++ [q]) (η.set L (.l ((acc ++ [q]).map plD))) (some (.lst ((nxA xs.length ys.length wide p).map plD))) r6 (some (.int m)) (by omega) (by rw [List.length_append, List.length_singleton]; omega) d2 (Pu.set hη (by
        show D.pures _ = true
        have : ∀ l : List Pl, D.pures (l.map plD) = true := fun l => by
          induction l with
          | nil => rfl
          | cons a l ih => rw [List.map_cons]; unfold D.pures; rw [ih]; rfl
        exact this _)) (List.getElem?_set_self hL)
      refine ⟨q :: w, ρ', ⟨hqn, h1⟩, ?_, ?_, h4⟩
      · rw [labP_eq hw hp, hm]
        show cellC xs ys p + costC xs ys (q :: w) = _
        rw [h2, hql]
        rfl
      · have e1 : told_walk_w0 [some (serD xs), some (serD ys), some (labsD xs ys wide), some (plD p), some (.ref L), r5, r6, r7] η = .ok true η := by
          have : ¬ ((p.1 : Int) = (xs.length : Int) - 1 ∧ (p.2 : Int) = (ys.length : Int) - 1) := fun z => he (Prod.ext (by show p.1 = xs.length - 1; omega) (by show p.2 = ys.length - 1; omega))
          simp [told_walk_w0, pl_eq, this]
        have e2 : told_walk_b0 [some (serD xs), some (serD ys), some (labsD xs ys wide), some (plD p), some (.ref L), r5, r6, r7] η = .nx [some (serD xs), some (serD ys), some (labsD xs ys wide), some (plD q), some (.ref L), some (.lst ((nxA xs.length ys.length wide p).map plD)), r6, some (.int m)] (η.set L (.l ((acc ++ [q]).map plD))) := by
          have c0 := tw_c0 (xs := xs) (ys := ys) (wide := wide) (η := η) (p := p) (r4 := some (.ref L)) (r5 := r5) (r6 := r6) (r7 := r7) hη hw
          have c1 := tw_c1 (xs := xs) (ys := ys) (wide := wide) (η := η) (p := p) (r4 := some (.ref L)) (r6 := r6) (r7 := r7) (nxA_len xs.length ys.length wide p) (fun q hq => nxA_dm hq)
          have c2 := tw_c2 (xs := xs) (ys := ys) (wide := wide) (η := η) (p := p) (r4 := some (.ref L)) (r6 := r6) (m := m) (nxA_len xs.length ys.length wide p) (fun q hq => nxA_dm hq)
          rw [hq] at c2
          have hz : (acc.length : Nat) < sizeLine := by rw [sizeLine_eq]; omega
          simp [told_walk_b0, e_sSeq, c0, c1, c2, dMin, hu, hm, tyD, h, mApp, hz]
        exact (sWh_go e1 e2).trans (h3.trans (by rw [List.set_set, List.append_assoc]; rfl))
end
end K71
set_option Elab.async false
set_option linter.all false
set_option maxRecDepth 100000
set_option maxHeartbeats 2000000
namespace Dn
open PySem PySem.Spec PyProof.Rows L2
/-- for d in l: b, by an invariant that counts -/
theorem forL_seq {g : FG} {b : FS} (I : Nat → Ev → Store → Prop) : ∀ (l : List D) (k : Nat) (ρ : Ev) (η : Store), I k ρ η → (∀ (j : Nat) (d : D), l[j]? = some d → ∀ ρ η, I (k + j) ρ η → ∃ ρ1 η1, g d ρ η = .ok ρ1 η1 ∧ ∃ ρ2 η2, b ρ1 η1 = .nx ρ2 η2 ∧ I (k + j + 1) ρ2 η2) →
    ∃ ρ' η', forL g b l ρ η = .nx ρ' η' ∧ I (k + l.length) ρ' η'
  | [], k, ρ, η, hi, _ => ⟨ρ, η, rfl, hi⟩
  | d :: l, k, ρ, η, hi, h => by
    obtain ⟨ρ1, η1, h1, ρ2, η2, h2, h3⟩ := h 0 d rfl ρ η hi
    obtain ⟨ρ', η', h4, h5⟩ := forL_seq (g := g) (b := b) I l (k + 1) ρ2 η2 h3 fun j d' hj ρ η hi => by
      have := h (j + 1) d' (by simpa using hj) ρ η (by rwa [show k + (j + 1) = k + 1 + j by omega])
      rwa [show k + (j + 1) + 1 = k + 1 + j + 1 by omega] at this
    refine ⟨ρ', η', ?_, by rw [List.length_cons, show k + (l.length + 1) = k + 1 + l.length by omega]; exact h5⟩
    simp only [forL, h1, R.thn_ok, h2, onS_nx, h4]
theorem down_get {n j : Nat} {d : D} (h : ((List.range n).reverse.map fun j => D.int (j : Nat))[j]? = some d) : j < n ∧ d = .int ((n - 1 - j : Nat) : Int) := by
  have hj : j < n := by
    have := (List.getElem?_eq_some_iff.mp h).1
    simpa using this
  refine ⟨hj, ?_⟩
  rw [List.getElem?_map, List.getElem?_reverse (by rw [List.length_range]; exact hj), List.length_range, List.getElem?_range (by omega)] at h
  cases h
  rfl
theorem up_get {n j : Nat} {d : D} (h : ((List.range n).map fun j => D.int (j : Nat))[j]? = some d) : j < n ∧ d = .int (j : Int) := by
  have hj : j < n := by
    have := (List.getElem?_eq_some_iff.mp h).1
    simpa using this
  refine ⟨hj, ?_⟩
  rw [List.getElem?_map, List.getElem?_range hj] at h
  cases h
  rfl
section
variable {α : Type} [DecidableEq α] {nx : α → List α} {e : α} {rk : α → Nat} {Dm : α → Prop} {c : α → Int}
theorem paths_fuel (G : Down nx e rk Dm) : ∀ (k j : Nat) (p : α), Dm p → rk p < k → rk p < j → paths nx e k p = paths nx e j p
  | 0, _, p, _, h, _ => by omega
  | k + 1, 0, p, _, _, h => by omega
  | k + 1, j + 1, p, hp, hk, hj => by
    unfold paths
    by_cases he : p = e
    · rw [if_pos he, if_pos he]
    · rw [if_neg he, if_neg he, List.flatMap_def, List.flatMap_def]
      congr 1
      refine List.map_congr_left fun q hq => ?_
      have := (G.dec p q hp hq).1
      rw [paths_fuel G k j q (G.dec p q hp hq).2 (by omega) (by omega)]
theorem paths_eq (G : Down nx e rk Dm) {k : Nat} {p : α} (hp : Dm p) (hk : rk p < k) : paths nx e k p = if p = e then [[p]] else (nx p).flatMap fun q => (paths nx e k q).map (p :: ·) := by
  cases k with
  | zero => omega
  | succ k =>
    conv => lhs; unfold paths
    by_cases he : p = e
    · rw [if_pos he, if_pos he]
    · rw [if_neg he, if_neg he, List.flatMap_def, List.flatMap_def]
      congr 1
      refine List.map_congr_left fun q hq => ?_
      have := (G.dec p q hp hq).1
      rw [paths_fuel G k (k + 1) q (G.dec p q hp hq).2 (by omega) (by omega)]
theorem flat_sum {β γ : Type} (f : β → List γ) : ∀ l : List β, ((l.flatMap f).length : Int) = (l.map fun b => ((f b).length : Int)).sum
  | [] => rfl
  | b :: l => by
    rw [List.flatMap_cons, List.length_append, List.map_cons, List.sum_cons, ← flat_sum f l]
    omega
/-- how many paths -/
theorem cnt_eq (G : Down nx e rk Dm) {k : Nat} {p : α} (hp : Dm p) (hk : rk p < k) : ((paths nx e k p).length : Int) = if p = e then 1 else ((nx p).map fun q => ((paths nx e k q).length : Int)).sum := by
  rw [paths_eq G hp hk]
  by_cases he : p = e
  · rw [if_pos he, if_pos he]; rfl
  · rw [if_neg he, if_neg he, flat_sum]
    simp only [List.length_map]
theorem filter_flat {β γ : Type} (f : β → List γ) (P : γ → Bool) : ∀ l : List β, (l.flatMap f).filter P = l.flatMap fun b => (f b).filter P
  | [] => rfl
  | b :: l => by rw [List.flatMap_cons, List.flatMap_cons, List.filter_append, filter_flat f P l]
theorem sum_filter {β : Type} (P : β → Bool) (f : β → Int) : ∀ l : List β, (∀ b ∈ l, P b = false → f b = 0) → (l.map f).sum = ((l.filter P).map f).sum
  | [], _ => rfl
  | b :: l, h => by
    have ih := sum_filter P f l fun c hc => h c (List.mem_cons_of_mem _ hc)
    rw [List.map_cons, List.sum_cons, ih, List.filter_cons]
    cases hb : P b with
    | true => simp
    | false => simp [h b List.mem_cons_self hb]
/-- how many of least cost -/
def cntL (nx : α → List α) (e : α) (c : α → Int) (k : Nat) (p : α) : Int := (((paths nx e k p).filter fun w => decide ((w.map c).sum = lab nx c k p)).length : Int)
theorem cntL_eq (G : Down nx e rk Dm) {k : Nat} {p : α} (hp : Dm p) (hk : rk p < k) : cntL nx e c k p = if p = e then 1 else (((nx p).filter fun q => decide (lab nx c k q = (minI ((nx p).map (lab nx c k))).getD 0)).map (cntL nx e c k)).sum := by
  unfold cntL
  rw [paths_eq G hp hk]
  by_cases he : p = e
  · rw [if_pos he, if_pos he]
    have h1 : lab nx c k p = c p := by
      rw [lab_eq G hp hk, he, G.stop]
      simp [minI]
    simp [h1]
  · rw [if_neg he, if_neg he]
    obtain ⟨m, hm⟩ := minI_some (l := (nx p).map (lab nx c k)) (by intro z; rw [List.map_eq_nil_iff] at z; exact G.go p hp he z)
    have hl : lab nx c k p = c p + m := by rw [lab_eq G hp hk, hm]; rfl
    rw [filter_flat, flat_sum, hm, hl]
    have key : ∀ q ∈ nx p, (((paths nx e k q).map (p :: ·)).filter fun w => decide ((w.map c).sum = c p + m)) = ((paths nx e k q).filter fun w => decide ((w.map c).sum = m)).map (p :: ·) := fun q hq => by
      rw [List.filter_map]
      congr 1
      refine List.filter_congr fun w _ => ?_
      show decide (((p :: w).map c).sum = c p + m) = decide ((w.map c).sum = m)
      rw [List.map_cons, List.sum_cons]
      refine decide_eq_decide.mpr ⟨fun z => by omega, fun z => by omega⟩
    rw [sum_filter (fun q => decide (lab nx c k q = m))]
    · congr 1
      refine List.map_congr_left fun q hq => ?_
      obtain ⟨h1, h2⟩ := List.mem_filter.mp hq
      rw [key q h1, List.length_map, of_decide_eq_true h2]
    · intro q hq hne
      rw [key q hq, List.length_map]
      have hne : ¬ lab nx c k q = m := of_decide_eq_false hne
      obtain ⟨d1, d2⟩ := G.dec p q hp hq
      have : (paths nx e k q).filter (fun w => decide ((w.map c).sum = m)) = [] := by
        refine List.filter_eq_nil_iff.mpr fun w hw z => ?_
        have z := of_decide_eq_true z
        have h1 := lab_le (c := c) G k q w d2 (by omega) hw
        have h2 := (minI_spec hm).2 _ (List.mem_map.mpr ⟨q, hq, rfl⟩)
        omega
      rw [this]
      rfl
end
end Dn
namespace K71
open PySem PySem.Spec PyProof.Rows L2 Dn
/-! ### a dict of places, numbers -/
def plM (F : Pl → Int) (l : List Pl) : M := .dT (l.map kyP) (l.map fun p => .int (F p))
theorem plM_pure (F : Pl → Int) (l : List Pl) : (plM F l).pure = true := by
  have := pures_ints (l.map F)
  rw [List.map_map] at this
  exact this
theorem ix_plM {η : Store} {i : Nat} {F : Pl → Int} {l : List Pl} (h : η[i]? = some (plM F l)) {p : Pl} (hp : p ∈ l) : dIx η (.ref i) (plD p) = some (.int (F p)) := by
  have e : dictAt η (.ref i) (plD p) = some (if p ∈ l then some (.int (F p)) else none) := by
    unfold dictAt
    dsimp only
    rw [h]
    unfold plM
    dsimp only
    rw [tkey_pl]
    dsimp only [Option.map]
    rw [look_places (fun p => .int (F p)) p l]
  unfold dIx
  rw [e, if_pos hp]
theorem set_plM {η : Store} {i : Nat} {F : Pl → Int} {l : List Pl} (h : η[i]? = some (plM F l)) {p : Pl} (hp : p ∉ l) (hl : l.length < 10000) : dSet η (.ref i) (plD p) (.int (F p)) = some (η.set i (plM F (l ++ [p]))) := by
  unfold dSet
  dsimp only
  rw [h]
  unfold plM
  dsimp only
  rw [tkey_pl]
  dsimp only
  rw [if_pos (by rw [List.length_map, sizeLine_eq]; omega), put_places (fun p => .int (F p)) p l hp]
theorem nexts_nxA (n m : Nat) (p : Pl) : nxA n m none p = nexts n m p := List.filter_eq_self.mpr fun _ _ => rfl
theorem nx_none (n m : Nat) : nxA n m none = nexts n m := funext fun p => nexts_nxA n m p
/-- how many walks from a place -/
def cntP (n m : Nat) (p : Pl) : Int := ((walksP n m none p).length : Int)
theorem none_w {w : Int} (h : (none : Option Int) = some w) : 0 ≤ w := nomatch h
theorem dm_none {n m : Nat} {p : Pl} (h1 : p.1 < n) (h2 : p.2 < m) : DmP n m none p := ⟨h1, h2, rfl⟩
theorem end_iff {n m : Nat} {p : Pl} (h1 : p.1 < n) (h2 : p.2 < m) : p = endP n m ↔ nexts n m p = [] := by
  have G := down n m none (fun _ => none_w)
  constructor
  · rintro rfl
    rw [← nexts_nxA]
    exact G.stop
  · intro h
    rw [← nexts_nxA] at h
    exact Classical.byContradiction fun z => G.go p (dm_none h1 h2) z h
theorem cntP_eq {n m : Nat} {p : Pl} (h1 : p.1 < n) (h2 : p.2 < m) : cntP n m p = if nexts n m p = [] then 1 else ((nexts n m p).map (cntP n m)).sum := by
  have := cnt_eq (down n m none (fun _ => none_w)) (dm_none h1 h2) (rk_lt h1 h2)
  rw [nexts_nxA] at this
  rw [show cntP n m p = _ from this]
  by_cases h : p = endP n m
  · rw [if_pos h, if_pos ((end_iff h1 h2).mp h)]
  · rw [if_neg h, if_neg fun z => h ((end_iff h1 h2).mpr z)]
    rfl
/-- how many least walks from a place -/
def cntLP (xs ys : List Int) (p : Pl) : Int := cntL (nxA xs.length ys.length none) (endP xs.length ys.length) (cellC xs ys) (xs.length + ys.length) p
theorem cntLP_eq {xs ys : List Int} {p : Pl} (h1 : p.1 < xs.length) (h2 : p.2 < ys.length) : cntLP xs ys p = if nexts xs.length ys.length p = [] then 1 else
    (((nexts xs.length ys.length p).filter fun q => decide (labP xs ys none q = (minI ((nexts xs.length ys.length p).map (labP xs ys none))).getD 0)).map (cntLP xs ys)).sum := by
  have := cntL_eq (c := cellC xs ys) (down xs.length ys.length none (fun _ => none_w)) (dm_none h1 h2) (rk_lt h1 h2)
  rw [nexts_nxA] at this
  rw [show cntLP xs ys p = _ from this]
  by_cases h : p = endP xs.length ys.length
  · rw [if_pos h, if_pos ((end_iff h1 h2).mp h)]
  · rw [if_neg h, if_neg fun z => h ((end_iff h1 h2).mpr z)]
    rfl
end K71
set_option Elab.async false
set_option linter.all false
set_option maxRecDepth 100000
set_option maxHeartbeats 2000000
namespace Dn
open PySem PySem.Spec PyProof.Rows L2
@[simp] theorem unAll_ints' : ∀ l : List Int, unAll unI (l.map D.int) = some l
  | [] => rfl
  | a :: l => by rw [List.map_cons, unAll, unAll_ints' l]; rfl
@[simp] theorem sum_ints {η : Store} {l : List Int} : dSum η [.lst (l.map .int)] = some (.int l.sum) := by simp [dSum]
@[simp] theorem min_ints {η : Store} {l : List Int} : dMin η [.lst (l.map .int)] = (minI l).map .int := by simp [dMin]
@[simp] theorem max_ints {η : Store} {l : List Int} : dMax η [.lst (l.map .int)] = (maxI l).map .int := by simp [dMax]
@[simp] theorem min_intsT {η : Store} {l : List Int} : dMin η [.tup (l.map .int)] = (minI l).map .int := by simp [dMin]
@[simp] theorem max_intsT {η : Store} {l : List Int} : dMax η [.tup (l.map .int)] = (maxI l).map .int := by simp [dMax]
@[simp] theorem ne_nil' {η : Store} {l : List Int} : dNe η (.lst (l.map .int)) (.lst []) = some (.bl (decide (l ≠ []))) := K71.ne_nil l
theorem set_same {η : Store} {i : Nat} {m : M} (h : η[i]? = some m) : η.set i m = η := by
  have hL := (List.getElem?_eq_some_iff.mp h).1
  refine List.ext_getElem? fun q => ?_
  by_cases z : i = q
  · subst z
    rw [List.getElem?_set_self hL, h]
  · rw [List.getElem?_set_ne z]
/-- range(n - 1, -1, -1) -/
theorem it_down {n : Nat} (hn : n ≤ 1000000) : itRg3 [.int ((n : Int) - 1), .int (-1), .int (-1)] = some (itF ((List.range n).reverse.map fun j => D.int (j : Nat))) := by
  have h1 : rgS ((n : Int) - 1) = true := by
    unfold rgS
    refine decide_eq_true ⟨?_, ?_⟩ <;> omega
  have h2 : rgS (-1) = true := by decide
  have e : ((n : Int) - 1 - (-1)).toNat = n := by omega
  have d := K71.down_list n
  rw [← d]
  simp [itRg3, h1, h2, itN]
theorem it_up {n : Nat} (hn : n ≤ 1000000) : itRg1 [.int (n : Int)] = some (itF ((List.range n).map fun j => D.int (j : Nat))) := by
  have h1 : rgS (n : Int) = true := by
    unfold rgS
    refine decide_eq_true ⟨?_, ?_⟩ <;> omega
  simp [itRg1, h1, itN]
end Dn
namespace K71
open PySem PySem.Spec PyProof.Rows L2 Dn
section
variable {xs ys : List Int} {η : Store} {p : Pl} {r3 r4 r5 r6 r7 : Option D} {L : Nat} {l : List Pl}
theorem hw_c0 (hη : Pu η) (h : η[L]? = some (plM (cntP xs.length ys.length) l)) (hn : ∀ q ∈ nexts xs.length ys.length p, q ∈ l) : how_many_walks_c0 [some (serD xs), some (serD ys), some (.ref L), some (.int p.1), some (.int p.2), r5, r6] η = .ok (.lst (((nexts xs.length ys.length p).map (cntP xs.length ys.length)).map .int)) η := by
  have tn := told_next_ok (η := η) (xs := xs) (ys := ys) (p := p) hη
  rw [pl_eq] at tn
  have := fLc_all (it := fIt (fCa 3 φ_told_next (fCons (fVar 0) (fCons (fVar 1) (fCons (fTup (fCons (fVar 3) (fCons (fVar 4) fNil))) fNil))))) (g := gN 6) (te := how_many_walks_e0) (vs := [6]) (ρ := [some (serD xs), some (serD ys), some (.ref L), some (.int p.1), some (.int p.2), r5, r6]) (η := η)
    plD (fun q => .int (cntP xs.length ys.length q)) (nexts xs.length ys.length p) (by simp [tn]) (by
      refine Nat.le_trans (List.length_filter_le _ _) ?_
      show 3 ≤ sizeLine
      rw [sizeLine_eq]
      omega) (fun q hq => ⟨_, rfl, by simp [how_many_walks_e0, ix_plM h (hn q hq)]⟩)
  rw [List.map_map]
  exact this
theorem hw_b0 (hη : Pu η) (h : η[L]? = some (plM (cntP xs.length ys.length) l)) (h1 : p.1 < xs.length) (h2 : p.2 < ys.length) (hp : p ∉ l) (hl : l.length < 10000) (hn : ∀ q ∈ nexts xs.length ys.length p, q ∈ l) :
    ∃ r5', how_many_walks_b0 [some (serD xs), some (serD ys), some (.ref L), some (.int p.1), some (.int p.2), r5, r6] η = .nx [some (serD xs), some (serD ys), some (.ref L), some (.int p.1), some (.int p.2), r5', r6] (η.set L (plM (cntP xs.length ys.length) (l ++ [p]))) := by
  refine ⟨some (.lst (((nexts xs.length ys.length p).map (cntP xs.length ys.length)).map .int)), ?_⟩
  have c0 := hw_c0 (r5 := r5) (r6 := r6) hη h hn
  have s := set_plM h hp hl
  rw [cntP_eq h1 h2, pl_eq] at s
  by_cases z : nexts xs.length ys.length p = []
  · rw [if_pos z] at s
    rw [z] at c0
    simp only [List.map_nil] at c0
    have nn := ne_nil' (η := η) (l := [])
    simp only [List.map_nil] at nn
    simp [how_many_walks_b0, e_sSeq, c0, z, nn, s]
  · rw [if_neg z] at s
    simp only [how_many_walks_b0, e_sSeq, e_sSet, c0, R.thn_ok, List.set_cons_succ, List.set_cons_zero]
    have z' : ¬ (nexts xs.length ys.length p).map (cntP xs.length ys.length) = [] := by rw [List.map_eq_nil_iff]; exact z
    generalize hr : (nexts xs.length ys.length p).map (cntP xs.length ys.length) = r at *
    simp [z', s]
/-- all places, by rows and columns from the last -/
abbrev allA (n m : Nat) : Pl → Bool := bandA n m none
theorem tab_len {n m i j : Nat} (hn : n ≤ 40) (hm : m ≤ 40) : (tabP (allA n m) n m (i + 1) ++ rowP (allA n m) m i j).length < 10000 := by
  rw [List.length_append]
  have h0 : n * m ≤ 40 * 40 := Nat.mul_le_mul hn hm
  have h1 : (tabP (allA n m) n m (i + 1)).length ≤ n * m := tabP_len
  have h2 : (rowP (allA n m) m i j).length ≤ m := rowP_len
  omega
theorem tab_next {n m i k : Nat} (hk : k < m) : ∀ q ∈ nexts n m (i, k), q ∈ tabP (allA n m) n m (i + 1) ++ rowP (allA n m) m i (k + 1) := by
  intro q hq
  obtain ⟨hs, h1, h2⟩ := mem_nexts.mp hq
  rw [List.mem_append, mem_tabP, mem_rowP]
  rcases hs with rfl | rfl | rfl
  · exact .inl ⟨Nat.le_refl _, h1, h2, rfl⟩
  · exact .inr ⟨rfl, Nat.le_refl _, h2, rfl⟩
  · exact .inl ⟨Nat.le_refl _, h1, h2, rfl⟩
theorem tab_new {n m i k : Nat} : (i, k) ∉ tabP (allA n m) n m (i + 1) ++ rowP (allA n m) m i (k + 1) := by
  intro z
  rw [List.mem_append, mem_tabP, mem_rowP] at z
  rcases z with ⟨z, _⟩ | ⟨_, z, _⟩ <;> dsimp only at z <;> omega
theorem hw_l0 {i : Nat} (hη : Pu η) (hx : xs.length ≤ 40) (hy : ys.length ≤ 40) (hi : i < xs.length) (h : η[L]? = some (plM (cntP xs.length ys.length) (tabP (allA xs.length ys.length) xs.length ys.length (i + 1)))) :
    ∃ r4' r5', how_many_walks_l0 [some (serD xs), some (serD ys), some (.ref L), some (.int i), r4, r5, r6] η = .nx [some (serD xs), some (serD ys), some (.ref L), some (.int i), r4', r5', r6] (η.set L (plM (cntP xs.length ys.length) (tabP (allA xs.length ys.length) xs.length ys.length i))) := by
  have hL := (List.getElem?_eq_some_iff.mp h).1
  obtain ⟨ρ', η', e, ⟨⟨r4', r5', e2⟩, e3⟩⟩ := forL_seq (g := gN 4) (b := how_many_walks_b0) (fun k ρ η' => (∃ r4 r5, ρ = [some (serD xs), some (serD ys), some (.ref L), some (.int i), r4, r5, r6]) ∧ η' = η.set L (plM (cntP xs.length ys.length) (tabP (allA xs.length ys.length) xs.length ys.length (i + 1) ++ rowP (allA xs.length ys.length) ys.length i (ys.length - k))))
    ((List.range ys.length).reverse.map fun j => D.int (j : Nat)) 0 [some (serD xs), some (serD ys), some (.ref L), some (.int i), r4, r5, r6] η ⟨⟨_, _, rfl⟩, by rw [Nat.sub_zero, rowP_end, List.append_nil, set_same h]⟩
    (fun j d hj ρ η1 ⟨⟨r4, r5, h1⟩, h2⟩ => by
      obtain ⟨hj, rfl⟩ := down_get hj
      subst h1
      rw [Nat.zero_add] at h2
      subst h2
      refine ⟨_, _, rfl, ?_⟩
      have hs := rowP_step (A := allA xs.length ys.length) (m := ys.length) (i := i) (k := ys.length - 1 - j) (by omega)
      rw [show allA xs.length ys.length (i, ys.length - 1 - j) = true from rfl, if_pos rfl, show ys.length - 1 - j + 1 = ys.length - j by omega] at hs
      obtain ⟨r5', e⟩ := hw_b0 (xs := xs) (ys := ys) (p := (i, ys.length - 1 - j)) (L := L) (r5 := r5) (r6 := r6) (Pu.set hη (plM_pure _ _)) (List.getElem?_set_self hL) hi (show ys.length - 1 - j < ys.length by omega)
        (by have := tab_new (n := xs.length) (m := ys.length) (i := i) (k := ys.length - 1 - j); rwa [show ys.length - 1 - j + 1 = ys.length - j by omega] at this) (tab_len hx hy)
        (by have := tab_next (n := xs.length) (m := ys.length) (i := i) (k := ys.length - 1 - j) (by omega); rwa [show ys.length - 1 - j + 1 = ys.length - j by omega] at this)
      refine ⟨_, _, e, ⟨_, _, rfl⟩, ?_⟩
      rw [List.set_set, show ys.length - (0 + j + 1) = ys.length - 1 - j by omega, hs, List.append_assoc])
  rw [Nat.zero_add, List.length_map, List.length_reverse, List.length_range, Nat.sub_self, ← tabP_step hi] at e3
  refine ⟨r4', r5', ?_⟩
  refine (sFor_eq (η1 := η) ?_).trans (e.trans (by rw [e2, e3]))
  simp [it_down (n := ys.length) (by omega)]
theorem hw_l1 (hη : Pu η) (hx : xs.length ≤ 40) (hy : ys.length ≤ 40) (h : η[L]? = some (plM (cntP xs.length ys.length) [])) :
    ∃ ρ', how_many_walks_l1 [some (serD xs), some (serD ys), some (.ref L), r3, r4, r5, r6] η = .nx ρ' (η.set L (plM (cntP xs.length ys.length) (tabP (allA xs.length ys.length) xs.length ys.length 0))) ∧ ρ'[2]? = some (some (.ref L)) := by
  have hL := (List.getElem?_eq_some_iff.mp h).1
  obtain ⟨ρ', η', e, ⟨⟨r3', r4', r5', e2⟩, e3⟩⟩ := forL_seq (g := gN 3) (b := how_many_walks_b1) (fun k ρ η' => (∃ r3 r4 r5, ρ = [some (serD xs), some (serD ys), some (.ref L), r3, r4, r5, r6]) ∧ η' = η.set L (plM (cntP xs.length ys.length) (tabP (allA xs.length ys.length) xs.length ys.length (xs.length - k))))
    ((List.range xs.length).reverse.map fun j => D.int (j : Nat)) 0 [some (serD xs), some (serD ys), some (.ref L), r3, r4, r5, r6] η ⟨⟨_, _, _, rfl⟩, by rw [Nat.sub_zero, tabP_end, set_same h]⟩
    (fun j d hj ρ η1 ⟨⟨r3, r4, r5, h1⟩, h2⟩ => by
      obtain ⟨hj, rfl⟩ := down_get hj
      subst h1
      rw [Nat.zero_add] at h2
      subst h2
      refine ⟨_, _, rfl, ?_⟩
      obtain ⟨r4', r5', e⟩ := hw_l0 (xs := xs) (ys := ys) (i := xs.length - 1 - j) (L := L) (r4 := r4) (r5 := r5) (r6 := r6) (Pu.set hη (plM_pure _ _)) hx hy (by omega) (by rw [show xs.length - 1 - j + 1 = xs.length - j by omega]; exact List.getElem?_set_self hL)
      refine ⟨_, _, e, ⟨_, _, _, rfl⟩, ?_⟩
      rw [List.set_set, show xs.length - (0 + j + 1) = xs.length - 1 - j by omega])
  rw [Nat.zero_add, List.length_map, List.length_reverse, List.length_range, Nat.sub_self] at e3
  refine ⟨ρ', ?_, by rw [e2]; rfl⟩
  refine (sFor_eq (η1 := η) ?_).trans (e.trans (by rw [e3]))
  simp [it_down (n := xs.length) (by omega)]
end
/-- series that the program takes -/
structure Ser (xs : List Int) : Prop where
  lo : 1 ≤ xs.length
  hi : xs.length ≤ 40
  b : ∀ x ∈ xs, -1000000 ≤ x ∧ x ≤ 1000000
theorem Ser.is {xs : List Int} (h : Ser xs) : isSerD (serD xs) = true := by
  unfold isSerD serD
  dsimp only
  rw [List.length_map, Bool.and_eq_true, Bool.and_eq_true]
  refine ⟨⟨decide_eq_true h.lo, decide_eq_true h.hi⟩, ?_⟩
  rw [List.all_map, List.all_eq_true]
  intro x hx
  obtain ⟨h1, h2⟩ := h.b x hx
  simp [isIntD, h1, h2]
theorem ser_told {xs : List Int} : (serD xs).told = true := rfl
theorem ser_tolds {xs : List Int} : ∀ zs, serD xs = .tup zs → ∀ z ∈ zs, z.told = true := fun zs h z hz => by
  cases h
  obtain ⟨i, _, rfl⟩ := List.mem_map.mp hz
  rfl
theorem ser_pure {xs : List Int} : (serD xs).pure = true := pures_ints xs
theorem look_ser {η : Store} {xs ys : List Int} (hη : Pu η) (hx : Ser xs) (hy : Ser ys) : φ_look_at_series [serD xs, serD ys] η = .ok .non η := by
  rw [look_ok hη ser_told ser_tolds ser_told ser_tolds ser_pure ser_pure, hx.is, hy.is]
  rfl
theorem pu_app {η more : Store} (h : Pu η) (hm : more.all M.pure = true) : Pu (η ++ more) := by
  show (η ++ more).all M.pure = true
  rw [List.all_append, h, hm]
  rfl
theorem how_many_walks_ok {η : Store} {xs ys : List Int} (hη : Pu η) (hx : Ser xs) (hy : Ser ys) : φ_how_many_walks [serD xs, serD ys] η = .ok (.int (cntP xs.length ys.length (0, 0))) η := by
  show exitR η.length (fs_how_many_walks _ η) = _
  have hm : (0, 0) ∈ tabP (allA xs.length ys.length) xs.length ys.length 0 := mem_tabP.mpr ⟨Nat.le_refl _, hx.lo, hy.lo, rfl⟩
  obtain ⟨ρ', e, h2⟩ := hw_l1 (η := η ++ [plM (cntP xs.length ys.length) []]) (L := η.length) (r3 := none) (r4 := none) (r5 := none) (r6 := none) (pu_app hη rfl) hx.hi hy.hi (by simp)
  rw [List.set_append_right _ _ (Nat.le_refl _), Nat.sub_self] at e
  have ix := ix_plM (F := cntP xs.length ys.length) (η := η ++ [plM (cntP xs.length ys.length) (tabP (allA xs.length ys.length) xs.length ys.length 0)]) (i := η.length) (by simp) hm
  rw [pl_eq] at ix
  have e' : fs_how_many_walks (startD 7 [serD xs, serD ys]) η = .rt (.int (cntP xs.length ys.length (0, 0))) (η ++ [plM (cntP xs.length ys.length) (tabP (allA xs.length ys.length) xs.length ys.length 0)]) := by
    have e0 : how_many_walks_l1 [some (serD xs), some (serD ys), some (.ref η.length), none, none, none, none] (η ++ [M.dT [] []]) = _ := e
    simp [fs_how_many_walks, startD, e_sSeq, look_ser hη hx hy, e0, h2]
    simp at ix
    rw [ix]
    rfl
  exact (congrArg _ e').trans (exit_rt hη rfl)
end K71
set_option Elab.async false
set_option linter.all false
set_option maxRecDepth 100000
set_option maxHeartbeats 2000000
namespace Dn
open PySem PySem.Spec PyProof.Rows L2
@[simp] theorem max2 {η : Store} {a b : Int} : dMax η [.int a, .int b] = some (.int (max a b)) := rfl
@[simp] theorem max3 {η : Store} {a b c : Int} : dMax η [.int a, .int b, .int c] = some (.int (max (max a b) c)) := rfl
@[simp] theorem max4 {η : Store} {a b c d : Int} : dMax η [.int a, .int b, .int c, .int d] = some (.int (max (max (max a b) c) d)) := rfl
@[simp] theorem min2 {η : Store} {a b : Int} : dMin η [.int a, .int b] = some (.int (min a b)) := rfl
theorem lst_ref {η : Store} {i : Nat} {xs : List D} (h : η[i]? = some (.l xs)) : lstOf η (.ref i) = some xs := by
  unfold lstOf
  dsimp only
  rw [h]
theorem tuple_ref {η : Store} {i : Nat} {xs : List D} (h : η[i]? = some (.l xs)) : dTuple η [.ref i] = some (.tup xs) := by
  show (lstOf η (.ref i)).map D.tup = _
  rw [lst_ref h]
  rfl
theorem ne_nil_of {η : Store} {l : List D} {ps : List PyData} (h : toPs l = some ps) : dNe η (.lst l) (.lst []) = some (.bl (decide (l ≠ []))) := by
  have e1 : toP η (.lst l) = some (.list ps) := by
    show (toPs l).map PyData.list = _
    rw [h]
    rfl
  have e2 : toP η (.lst []) = some (.list []) := rfl
  unfold dNe
  rw [e1, e2]
  dsimp only
  rw [if_pos (Nat.le_trans (Nat.min_le_right _ _) (by decide))]
  cases l with
  | nil => cases h; rfl
  | cons a l =>
    obtain ⟨p, qs, _, _, rfl⟩ := toPs_inv h
    rfl
/-- who stands ahead in a list in order -/
theorem take_of {α : Type} {R : α → α → Prop} {l : List α} {k : Nat} {p q : α} (hp : l.Pairwise R) (hk : l[k]? = some p) (hq : q ∈ l) (hne : q ≠ p) (hr : ¬ R p q) : q ∈ l.take k := by
  obtain ⟨hk', e⟩ := List.getElem?_eq_some_iff.mp hk
  have hl : l = l.take k ++ p :: l.drop (k + 1) := by
    rw [← e, ← List.drop_eq_getElem_cons hk', List.take_append_drop]
  rw [hl] at hq hp
  rcases List.mem_append.mp hq with h | h
  · exact h
  · rcases List.mem_cons.mp h with h | h
    · exact absurd h hne
    · exact absurd ((List.pairwise_cons.mp (List.pairwise_append.mp hp).2.1).1 q h) hr
theorem take_not {α : Type} {R : α → α → Prop} {l : List α} {k : Nat} {p : α} (hp : l.Pairwise R) (hk : l[k]? = some p) (hr : ¬ R p p) : p ∉ l.take k := by
  obtain ⟨hk', e⟩ := List.getElem?_eq_some_iff.mp hk
  have hl : l = l.take k ++ p :: l.drop (k + 1) := by
    rw [← e, ← List.drop_eq_getElem_cons hk', List.take_append_drop]
  intro hq
  rw [hl] at hp
  exact hr ((List.pairwise_append.mp hp).2.2 p hq p List.mem_cons_self)
end Dn
namespace K71
open PySem PySem.Spec PyProof.Rows L2 Dn
theorem pls_pure : ∀ l : List Pl, D.pures (l.map plD) = true
  | [] => rfl
  | a :: l => by rw [List.map_cons]; unfold D.pures; rw [pls_pure l]; rfl
theorem walk_pure {w : List Pl} : (walkD w).pure = true := pls_pure w
/-- places as data -/
theorem pls_toPs : ∀ l : List Pl, toPs (l.map plD) = some (l.map fun p => PyData.tuple [.int p.1, .int p.2])
  | [] => rfl
  | a :: l => by rw [List.map_cons, toPs, pls_toPs l]; rfl
@[simp] theorem ne_nil_pl {η : Store} {l : List Pl} : dNe η (.lst (l.map plD)) (.lst []) = some (.bl (decide (l ≠ []))) := by
  rw [ne_nil_of (pls_toPs l)]
  simp
section
variable {xs ys : List Int} {η : Store} {wide : Option Int}
theorem dm0 (hw : ∀ w, wide = some w → 0 ≤ w) (hx : Ser xs) (hy : Ser ys) : DmP xs.length ys.length wide (0, 0) := by
  refine ⟨hx.lo, hy.lo, ?_⟩
  unfold bandA
  cases wide with
  | none => rfl
  | some w =>
    have := hw w rfl
    simp only [Bool.and_eq_true, decide_eq_true_eq]
    omega
/-- a walk within the band -/
abbrev Walk (n m : Nat) (wide : Option Int) (w : List Pl) : Prop := ∃ r, w = (0, 0) :: r ∧ IsPath (nxA n m wide) (endP n m) w
theorem told_walk_ok (hη : Pu η) (hw : ∀ w, wide = some w → 0 ≤ w) (hx : Ser xs) (hy : Ser ys) : ∃ w, Walk xs.length ys.length wide w ∧ costC xs ys w = labP xs ys wide (0, 0) ∧ φ_told_walk [serD xs, serD ys, labsD xs ys wide] η = .ok (walkD w) η := by
  have h1 := hx.hi
  have h2 := hy.hi
  obtain ⟨w, ρ', p1, p2, e, h4⟩ := tw_loop (L := η.length) hw hx.lo hy.lo (xs.length + ys.length) (0, 0) [(0, 0)] (η ++ [.l ([(0, 0)].map plD)]) none none none (by unfold rkP; omega) (by simp only [List.length_singleton]; omega) (dm0 hw hx hy) (pu_app hη rfl) (by simp -implicitDefEqProofs)
  refine ⟨_, ⟨w, rfl, p1⟩, p2, ?_⟩
  rw [List.set_append_right _ _ (Nat.le_refl _), Nat.sub_self] at e
  show exitR η.length (fs_told_walk _ η) = _
  have e' : fs_told_walk (startD 8 [serD xs, serD ys, labsD xs ys wide]) η = .rt (walkD ((0, 0) :: w)) (η ++ [.l (([(0, 0)] ++ w).map plD)]) := by
    have tr := tuple_ref (η := η ++ [.l (([(0, 0)] ++ w).map plD)]) (xs := ([(0, 0)] ++ w).map plD) (i := η.length) (by simp -implicitDefEqProofs)
    have e0 : told_walk_l0 [some (serD xs), some (serD ys), some (labsD xs ys wide), some (.tup [.int 0, .int 0]), some (.ref η.length), none, none, none] (η ++ [.l [.tup [.int 0, .int 0]]]) = _ := e
    simp at tr
    simp -implicitDefEqProofs [fs_told_walk, startD, e_sSeq, e0, h4, tr]
    rfl
  exact (congrArg _ e').trans (exit_rt hη walk_pure)
/-- labels, by rows -/
def rowsD (xs ys : List Int) : D := .tup ((List.range xs.length).map fun i => .tup ((List.range ys.length).map fun j => .int (labP xs ys none (i, j))))
theorem rows_pure : (rowsD xs ys).pure = true := by
  show D.pures _ = true
  have : ∀ l : List Nat, D.pures (l.map fun (i : Nat) => D.tup ((List.range ys.length).map fun (j : Nat) => D.int (labP xs ys none (i, j)))) = true := fun l => by
    induction l with
    | nil => rfl
    | cons a l ih =>
      rw [List.map_cons]
      unfold D.pures
      rw [ih]
      have := pures_ints ((List.range ys.length).map fun (j : Nat) => labP xs ys none (a, j))
      rw [List.map_map] at this
      exact Bool.and_eq_true_iff.mpr ⟨this, rfl⟩
  exact this _
theorem told_labels_ser (hη : Pu η) (hw : ∀ w, wide = some w → 0 ≤ w) (hx : Ser xs) (hy : Ser ys) : φ_told_labels [serD xs, serD ys, wideD wide] η = .ok (labsD xs ys wide) η := told_labels_40 hη hw hx.hi hy.hi
theorem lw_c0 {r3 r4 : Option D} {i : Nat} (hy : Ser ys) (hi : i < xs.length) : least_walk_c0 [some (serD xs), some (serD ys), some (labsD xs ys none), r3, r4, some (.int i)] η = .ok (.lst ((List.range ys.length).map fun (j : Nat) => .int (labP xs ys none (i, j)))) η := by
  have h2 := hy.hi
  refine fLc_all (fun j : Nat => D.int j) (fun j : Nat => .int (labP xs ys none (i, j))) (List.range ys.length) (by simp -implicitDefEqProofs [it_up (n := ys.length) (by omega)]) (by rw [List.length_range, sizeLine_eq]; omega) fun j hj => ⟨_, rfl, ?_⟩
  have hj := List.mem_range.mp hj
  have ix := labs_ix (η := η) (xs := xs) (ys := ys) (wide := none) (p := (i, j)) (dm_none hi hj)
  rw [pl_eq] at ix
  simp -implicitDefEqProofs [least_walk_e0, ix]
theorem lw_c1 {r3 r4 r5 : Option D} (hx : Ser xs) (hy : Ser ys) : least_walk_c1 [some (serD xs), some (serD ys), some (labsD xs ys none), r3, r4, r5] η = .ok (.lst ((List.range xs.length).map fun (i : Nat) => .tup ((List.range ys.length).map fun (j : Nat) => .int (labP xs ys none (i, j))))) η := by
  have h1 := hx.hi
  refine fLc_all (fun j : Nat => D.int j) (fun i : Nat => .tup ((List.range ys.length).map fun (j : Nat) => .int (labP xs ys none (i, j)))) (List.range xs.length) (by simp -implicitDefEqProofs [it_up (n := xs.length) (by omega)]) (by rw [List.length_range, sizeLine_eq]; omega) fun i hi => ⟨_, rfl, ?_⟩
  have hi := List.mem_range.mp hi
  simp -implicitDefEqProofs [least_walk_e1, lw_c0 hy hi]
theorem told_pure {c : Int} {w : List Pl} {r : D} (hr : r.pure = true) : (D.tup [.str "walk", .int c, walkD w, r]).pure = true := by
  simp only [D.pure, D.pures, walk_pure, hr, Bool.and_self]
theorem least_walk_ok (hη : Pu η) (hx : Ser xs) (hy : Ser ys) : ∃ w, Walk xs.length ys.length none w ∧ costC xs ys w = labP xs ys none (0, 0) ∧ φ_least_walk [serD xs, serD ys] η = .ok (.tup [.str "walk", .int (labP xs ys none (0, 0)), walkD w, rowsD xs ys]) η := by
  obtain ⟨w, p1, p2, tw⟩ := told_walk_ok (wide := none) hη (fun _ => none_w) hx hy
  refine ⟨w, p1, p2, ?_⟩
  have tl : φ_told_labels [serD xs, serD ys, .non] η = _ := told_labels_ser (wide := none) hη (fun _ => none_w) hx hy
  have ix := labs_ix (η := η) (dm0 (wide := none) (fun _ => none_w) hx hy)
  rw [pl_eq] at ix
  have ix' : dIx η (labsD xs ys none) (.tup [.int 0, .int 0]) = _ := ix
  show exitR η.length (fs_least_walk _ η) = _
  have e' : fs_least_walk (startD 6 [serD xs, serD ys]) η = .rt (.tup [.str "walk", .int (labP xs ys none (0, 0)), walkD w, rowsD xs ys]) η := by
    unfold rowsD
    simp -implicitDefEqProofs [fs_least_walk, startD, e_sSeq, look_ser hη hx hy, tl, lw_c1 hx hy, ix', tw]
  exact (congrArg _ e').trans (exit_rt0 hη (told_pure rows_pure))
theorem least_walk_in_band_ok {b : Int} (hη : Pu η) (hx : Ser xs) (hy : Ser ys) (h1 : 0 ≤ b) (h2 : b ≤ 40) : ∃ w, Walk xs.length ys.length (some b) w ∧ costC xs ys w = labP xs ys (some b) (0, 0) ∧ φ_least_walk_in_band [serD xs, serD ys, .int b] η = .ok (.tup [.int (labP xs ys (some b) (0, 0)), walkD w]) η := by
  have hw : ∀ w, some b = some w → 0 ≤ w := fun w e => by cases e; exact h1
  obtain ⟨w, p1, p2, tw⟩ := told_walk_ok (wide := some b) hη hw hx hy
  refine ⟨w, p1, p2, ?_⟩
  have tl := told_labels_ser (wide := some b) hη hw hx hy
  have tl' : φ_told_labels [serD xs, serD ys, .int b] η = _ := tl
  have ix := labs_ix (η := η) (dm0 hw hx hy)
  rw [pl_eq] at ix
  have ix' : dIx η (labsD xs ys (some b)) (.tup [.int 0, .int 0]) = _ := ix
  have ii := is_int_ok (v := .int b) (lo := 0) (hi := 40) hη rfl
  rw [show isIntD (.int b) 0 40 = true by simp -implicitDefEqProofs [isIntD, h1, h2]] at ii
  show exitR η.length (fs_least_walk_in_band _ η) = _
  have e' : fs_least_walk_in_band (startD 4 [serD xs, serD ys, .int b]) η = .rt (.tup [.int (labP xs ys (some b) (0, 0)), walkD w]) η := by
    simp -implicitDefEqProofs [fs_least_walk_in_band, startD, e_sSeq, look_ser hη hx hy, ii, tl', ix', tw]
  exact (congrArg _ e').trans (exit_rt0 hη (by simp only [D.pure, D.pures, walk_pure, Bool.and_self]))
/-! ### how many least -/
def LexD (p q : Pl) : Prop := q.1 < p.1 ∨ (p.1 = q.1 ∧ q.2 < p.2)
theorem tab_order {A : Pl → Bool} {n m i : Nat} : (tabP A n m i).Pairwise LexD := by
  unfold tabP
  refine List.pairwise_flatMap.mpr ⟨fun a _ => ?_, ?_⟩
  · unfold rowP
    refine List.Pairwise.filter _ (List.pairwise_map.mpr (List.pairwise_reverse.mpr ?_))
    exact List.Pairwise.imp (fun h => .inr ⟨rfl, h⟩) List.pairwise_lt_range'
  · refine List.pairwise_reverse.mpr (List.Pairwise.imp (fun h => fun p hp q hq => ?_) List.pairwise_lt_range')
    have h1 := (mem_rowP.mp hp).1
    have h2 := (mem_rowP.mp hq).1
    exact .inl (by omega)
theorem hl_b0 {p : Pl} {r5 r6 r7 : Option D} {L : Nat} {l : List Pl} (hη : Pu η) (h : η[L]? = some (plM (cntLP xs ys) l)) (h1 : p.1 < xs.length) (h2 : p.2 < ys.length) (hp : p ∉ l) (hl : l.length < 10000) (hn : ∀ q ∈ nexts xs.length ys.length p, q ∈ l) :
    ∃ r5' r6', how_many_least_b0 [some (serD xs), some (serD ys), some (labsD xs ys none), some (.ref L), some (plD p), r5, r6, r7] η = .nx [some (serD xs), some (serD ys), some (labsD xs ys none), some (.ref L), some (plD p), r5', r6', r7] (η.set L (plM (cntLP xs ys) (l ++ [p]))) := by
  have tn := told_next_ok (η := η) (xs := xs) (ys := ys) (p := p) hη
  have hd : ∀ q ∈ nexts xs.length ys.length p, DmP xs.length ys.length none q := fun q hq => by
    obtain ⟨_, a, b⟩ := mem_nexts.mp hq
    exact dm_none a b
  have h3 : (nexts xs.length ys.length p).length ≤ 3 := List.length_filter_le _ _
  obtain ⟨m, hm⟩ : ∃ m, m = (minI ((nexts xs.length ys.length p).map (labP xs ys none))).getD 0 := ⟨_, rfl⟩
  have c0 : ∀ (r6 r7 : Option D), how_many_least_c0 [some (serD xs), some (serD ys), some (labsD xs ys none), some (.ref L), some (plD p), some (.lst ((nexts xs.length ys.length p).map plD)), r6, r7] η = .ok (.lst (((nexts xs.length ys.length p).map (labP xs ys none)).map .int)) η := fun r6 r7 => by
    rw [List.map_map]
    exact fLc_all plD (fun q => .int (labP xs ys none q)) (nexts xs.length ys.length p) (by simp -implicitDefEqProofs) (by rw [sizeLine_eq]; omega) fun q hq => ⟨_, rfl, by simp -implicitDefEqProofs [how_many_least_e0, labs_ix (hd q hq)]⟩
  have c1 : ∀ (r7 : Option D), how_many_least_c1 [some (serD xs), some (serD ys), some (labsD xs ys none), some (.ref L), some (plD p), some (.lst ((nexts xs.length ys.length p).map plD)), some (.int m), r7] η = .ok (.lst ((((nexts xs.length ys.length p).filter fun q => decide (labP xs ys none q = m)).map (cntLP xs ys)).map .int)) η := fun r7 => by
    rw [List.map_map]
    exact fLc_list plD (fun q => decide (labP xs ys none q = m)) (fun q => .int (cntLP xs ys q)) (nexts xs.length ys.length p) (by simp -implicitDefEqProofs) (by rw [sizeLine_eq]; omega) fun q hq => ⟨_, rfl, by simp -implicitDefEqProofs [how_many_least_t0, labs_ix (hd q hq)], fun _ => by simp -implicitDefEqProofs [how_many_least_e1, ix_plM h (hn q hq)]⟩
  have s := set_plM h hp hl
  rw [cntLP_eq h1 h2, ← hm] at s
  refine ⟨some (.lst ((nexts xs.length ys.length p).map plD)), some (.int m), ?_⟩
  have hm' : nexts xs.length ys.length p ≠ [] → (minI ((nexts xs.length ys.length p).map (labP xs ys none))).map D.int = some (.int m) := fun z => by
    obtain ⟨k, hk⟩ := minI_some (l := (nexts xs.length ys.length p).map (labP xs ys none)) (by rw [ne_eq, List.map_eq_nil_iff]; exact z)
    rw [hk] at hm ⊢
    rw [hm]
    rfl
  by_cases z : nexts xs.length ys.length p = []
  · have m0 : m = 0 := by rw [hm, z]; rfl
    rw [if_pos z] at s
    have nn := ne_nil_pl (η := η) (l := [])
    simp only [List.map_nil] at nn
    rw [z] at tn
    simp -implicitDefEqProofs [how_many_least_b0, e_sSeq, tn, nn, s, m0, z]
  · rw [if_neg z] at s
    have hm2 := hm' z
    generalize hr : (nexts xs.length ys.length p).map (labP xs ys none) = r at *
    have mn := min_ints (η := η) (l := r)
    simp only [how_many_least_b0, e_sSeq, e_sSet, e_if, e_test, e_2, e_var, e_Ca, e_cons, e_nil, e_C, e_lst, e_Cl, R.bind_ok, R.of_some, R.thn_ok, tn, c0, List.set_cons_succ, List.set_cons_zero, List.getElem?_cons_succ, List.getElem?_cons_zero, Option.bind_some, id_eq, List.length_cons, List.length_nil, if_true, ne_nil_pl, fits0, mn, hm2, z, ne_eq, not_false_eq_true, decide_true, unB_bl]
    generalize ((nexts xs.length ys.length p).filter fun q => decide (labP xs ys none q = m)).map (cntLP xs ys) = u at *
    simp -implicitDefEqProofs [z, c1, s]
theorem hl_l0 {r4 r5 r6 r7 : Option D} {L : Nat} (hη : Pu η) (hx : Ser xs) (hy : Ser ys) (h : η[L]? = some (plM (cntLP xs ys) [])) :
    ∃ ρ', how_many_least_l0 [some (serD xs), some (serD ys), some (labsD xs ys none), some (.ref L), r4, r5, r6, r7] η = .nx ρ' (η.set L (plM (cntLP xs ys) (allP xs.length ys.length none))) ∧ ρ'[3]? = some (some (.ref L)) := by
  have hL := (List.getElem?_eq_some_iff.mp h).1
  have hlen : (allP xs.length ys.length none).length ≤ 1600 := Nat.le_trans tabP_len (Nat.mul_le_mul hx.hi hy.hi)
  obtain ⟨ρ', η', e, ⟨⟨r4', r5', r6', e2⟩, e3⟩⟩ := forL_seq (g := gN 4) (b := how_many_least_b0) (fun k ρ η' => (∃ r4 r5 r6, ρ = [some (serD xs), some (serD ys), some (labsD xs ys none), some (.ref L), r4, r5, r6, r7]) ∧ η' = η.set L (plM (cntLP xs ys) ((allP xs.length ys.length none).take k)))
    ((allP xs.length ys.length none).map plD) 0 [some (serD xs), some (serD ys), some (labsD xs ys none), some (.ref L), r4, r5, r6, r7] η ⟨⟨_, _, _, rfl⟩, by rw [List.take_zero, set_same h]⟩
    (fun j d hj ρ η1 ⟨⟨r4, r5, r6, h1⟩, h2⟩ => by
      rw [List.getElem?_map] at hj
      obtain ⟨p, hp, rfl⟩ := Option.map_eq_some_iff.mp hj
      subst h1
      rw [Nat.zero_add] at h2
      subst h2
      refine ⟨_, _, rfl, ?_⟩
      have hk := (List.getElem?_eq_some_iff.mp hp).1
      obtain ⟨p1, p2, _⟩ := mem_allP.mp (List.mem_of_getElem? hp)
      obtain ⟨r5', r6', e⟩ := hl_b0 (xs := xs) (ys := ys) (p := p) (L := L) (r5 := r5) (r6 := r6) (r7 := r7) (l := (allP xs.length ys.length none).take j) (Pu.set hη (plM_pure _ _)) (List.getElem?_set_self hL) p1 p2
        (take_not tab_order hp (by unfold LexD; omega)) (by rw [List.length_take]; omega) (fun q hq => by
          obtain ⟨hs, q1, q2⟩ := mem_nexts.mp hq
          refine take_of tab_order hp (mem_allP.mpr (dm_none q1 q2)) ?_ ?_
          · rintro rfl
            rcases hs with hs | hs | hs <;> (have := congrArg Prod.fst hs; have := congrArg Prod.snd hs; dsimp only at *; omega)
          · unfold LexD
            rcases hs with rfl | rfl | rfl <;> dsimp only <;> omega)
      refine ⟨_, _, e, ⟨_, _, _, rfl⟩, ?_⟩
      rw [List.set_set, Nat.zero_add, List.take_add_one, hp]
      rfl)
  rw [Nat.zero_add, List.length_map, List.take_length] at e3
  refine ⟨ρ', ?_, by rw [e2]; rfl⟩
  have ek : ((allP xs.length ys.length none).map kyP).map (fun k => D.tup (k.map keyD)) = (allP xs.length ys.length none).map plD := by rw [List.map_map]; rfl
  show noRse (limS fun n => forN (itF (((allP xs.length ys.length none).map kyP).map (fun k => D.tup (k.map keyD)))) (gN 4) how_many_least_b0 n 0 _ η) = _
  rw [ek, limS_for, e, e3]
  rfl
theorem how_many_least_ok (hη : Pu η) (hx : Ser xs) (hy : Ser ys) : φ_how_many_least [serD xs, serD ys] η = .ok (.int (cntLP xs ys (0, 0))) η := by
  show exitR η.length (fs_how_many_least _ η) = _
  have hm : (0, 0) ∈ allP xs.length ys.length none := mem_allP.mpr (dm_none hx.lo hy.lo)
  obtain ⟨ρ', e, h2⟩ := hl_l0 (η := η ++ [plM (cntLP xs ys) []]) (L := η.length) (r4 := none) (r5 := none) (r6 := none) (r7 := none) (pu_app hη rfl) hx hy (by simp -implicitDefEqProofs)
  rw [List.set_append_right _ _ (Nat.le_refl _), Nat.sub_self] at e
  have ix := ix_plM (F := cntLP xs ys) (η := η ++ [plM (cntLP xs ys) (allP xs.length ys.length none)]) (i := η.length) (by simp -implicitDefEqProofs) hm
  rw [pl_eq] at ix
  have tl : φ_told_labels [serD xs, serD ys, .non] η = _ := told_labels_ser (wide := none) hη (fun _ => none_w) hx hy
  have e' : fs_how_many_least (startD 8 [serD xs, serD ys]) η = .rt (.int (cntLP xs ys (0, 0))) (η ++ [plM (cntLP xs ys) (allP xs.length ys.length none)]) := by
    have e0 : how_many_least_l0 [some (serD xs), some (serD ys), some (labsD xs ys none), some (.ref η.length), none, none, none, none] (η ++ [M.dT [] []]) = _ := e
    simp -implicitDefEqProofs [fs_how_many_least, startD, e_sSeq, look_ser hη hx hy, tl, e0, h2]
    simp at ix
    rw [ix]
    rfl
  exact (congrArg _ e').trans (exit_rt hη rfl)
end
end K71
set_option Elab.async false
set_option linter.all false
set_option maxRecDepth 100000
set_option maxHeartbeats 2000000
namespace Dn
open PySem PySem.Spec PyProof.Rows L2
/- a value that nobody changes, without errors and dicts of places -/
mutual
def D.deep : D → Bool
  | .non => true
  | .bl _ => true
  | .int _ => true
  | .str _ => true
  | .tup xs => D.deeps xs
  | .lst xs => D.deeps xs
  | .dK _ xs => D.deeps xs
  | .dT _ _ => false
  | .scr _ => false
  | .ref _ => false
  | .exc _ _ => false
def D.deeps : List D → Bool
  | [] => true
  | x :: xs => D.deep x && D.deeps xs
end
theorem deeps_mem : ∀ {xs : List D}, D.deeps xs = true → ∀ x ∈ xs, x.deep = true
  | x :: xs, h, d, hd => by
    unfold D.deeps at h
    obtain ⟨h1, h2⟩ := Bool.and_eq_true_iff.mp h
    rcases List.mem_cons.mp hd with q | q
    · rw [q]; exact h1
    · exact deeps_mem h2 d q
theorem deeps_of : ∀ {xs : List D}, (∀ x ∈ xs, x.deep = true) → D.deeps xs = true
  | [], _ => rfl
  | x :: xs, h => by
    unfold D.deeps
    rw [h x List.mem_cons_self, deeps_of fun y hy => h y (List.mem_cons_of_mem _ hy)]
    rfl
theorem deep_told {d : D} (h : d.deep = true) : d.told = true := by
  cases d <;> first | rfl | cases h
mutual
theorem deep_pure : ∀ (d : D), d.deep = true → d.pure = true
  | .non, _ => rfl
  | .bl _, _ => rfl
  | .int _, _ => rfl
  | .str _, _ => rfl
  | .tup xs, h => deeps_pure xs h
  | .lst xs, h => deeps_pure xs h
  | .dK _ xs, h => deeps_pure xs h
theorem deeps_pure : ∀ (ds : List D), D.deeps ds = true → D.pures ds = true
  | [], _ => rfl
  | d :: ds, h => by
    unfold D.deeps at h
    obtain ⟨h1, h2⟩ := Bool.and_eq_true_iff.mp h
    unfold D.pures
    rw [deep_pure d h1, deeps_pure ds h2]
    rfl
end
theorem deep_ty {η : Store} {d : D} (h : d.deep = true) : (tyD η d).isSome = true := by
  cases d <;> first | rfl | cases h
theorem cut_tail {α : Type} {xs : List α} : cutD xs (some 1) none = xs.drop 1 := by
  unfold cutD HT.sIx
  simp only [show ¬ ((1 : Int) < 0) by decide, if_false]
  cases xs with
  | nil => rfl
  | cons a xs =>
    have e : min (Int.toNat 1) (a :: xs).length = 1 := by
      rw [List.length_cons]
      show min 1 (xs.length + 1) = 1
      omega
    rw [e]
    exact List.take_of_length_le (by rw [List.length_drop]; exact Nat.le_refl _)
@[simp] theorem sl_tail {η : Store} {xs : List D} : dSl η (.tup xs) (some 1) none = some (.tup (xs.drop 1)) := by
  show some (D.tup (cutD xs (some 1) none)) = _
  rw [cut_tail]
/-- a path is told by its steps -/
theorem path_iff {α : Type} {nx : α → List α} {e : α} : ∀ (p : α) (w : List α), IsPath nx e (p :: w) ↔ (p :: w).getLast (List.cons_ne_nil _ _) = e ∧ ∀ x ∈ (p :: w).zip w, x.2 ∈ nx x.1
  | p, [] => by simp [IsPath]
  | p, q :: r => by
    have ih := path_iff (nx := nx) (e := e) q r
    rw [IsPath, ih, List.getLast_cons (List.cons_ne_nil _ _), List.zip_cons_cons, List.forall_mem_cons]
    exact ⟨fun ⟨a, b, c⟩ => ⟨b, a, c⟩, fun ⟨b, a, c⟩ => ⟨a, b, c⟩⟩
end Dn
namespace K71
open PySem PySem.Spec PyProof.Rows L2 Dn
theorem toP_pls {η : Store} (l : List Pl) : toP η (.lst (l.map plD)) = some (.list (l.map fun p => PyData.tuple [.int p.1, .int p.2])) := by
  show (toPs (l.map plD)).map PyData.list = _
  rw [pls_toPs]
  rfl
theorem in_pls {η : Store} {p : Pl} {l : List Pl} : dIn η (plD p) (.lst (l.map plD)) = some (.bl (decide (p ∈ l))) := by
  unfold dIn
  rw [show dictAt η (.lst (l.map plD)) (plD p) = none from rfl]
  dsimp only
  rw [toP_pls, show toP η (plD p) = some (.tuple [.int p.1, .int p.2]) from rfl]
  dsimp only
  rw [if_pos (by simp [PyData.depth, PyData.depthAll])]
  congr 2
  rw [List.any_map]
  induction l with
  | nil => rfl
  | cons q l ih =>
    rw [List.any_cons, ih]
    show (PyData.eqv _ _ || _) = _
    rw [eqv_pl]
    have : ((q.1 : Int) = p.1 ∧ (q.2 : Int) = p.2) ↔ p = q := ⟨fun ⟨a, b⟩ => Prod.ext (by omega) (by omega), fun z => by subst z; exact ⟨rfl, rfl⟩⟩
    by_cases h : p = q
    · simp [h]
    · simp [this, h]
section
variable {xs ys : List Int} {η : Store}
theorem walk_in {w : List Pl} (h : Walk xs.length ys.length none w) (hx : 1 ≤ xs.length) (hy : 1 ≤ ys.length) : ∀ p ∈ w, p.1 < xs.length ∧ p.2 < ys.length := by
  obtain ⟨r, rfl, h⟩ := h
  have key : ∀ (r : List Pl) (p : Pl), p.1 < xs.length → p.2 < ys.length → IsPath (nxA xs.length ys.length none) (endP xs.length ys.length) (p :: r) → ∀ q ∈ p :: r, q.1 < xs.length ∧ q.2 < ys.length := by
    intro r
    induction r with
    | nil =>
      intro p h1 h2 _ q hq
      rw [List.mem_singleton] at hq
      subst hq
      exact ⟨h1, h2⟩
    | cons a r ih =>
      intro p h1 h2 h q hq
      rcases List.mem_cons.mp hq with rfl | hq
      · exact ⟨h1, h2⟩
      · have := nxA_dm h.1
        exact ih a this.1 this.2.1 h.2 q hq
  exact key r (0, 0) hx hy h
theorem walk_len {w : List Pl} (h : Walk xs.length ys.length none w) (hx : 1 ≤ xs.length) (hy : 1 ≤ ys.length) : w.length ≤ xs.length + ys.length - 1 ∧ 1 ≤ w.length := by
  obtain ⟨r, rfl, h⟩ := h
  have key : ∀ (r : List Pl) (p : Pl), p.1 < xs.length → p.2 < ys.length → IsPath (nxA xs.length ys.length none) (endP xs.length ys.length) (p :: r) → r.length ≤ rkP xs.length ys.length p := by
    intro r
    induction r with
    | nil => intro p _ _ _; exact Nat.zero_le _
    | cons a r ih =>
      intro p h1 h2 h
      have h3 := nxA_dm h.1
      have := ih a h3.1 h3.2.1 h.2
      have := ((down xs.length ys.length none (fun _ => none_w)).dec p a (dm_none h1 h2) h.1).1
      rw [List.length_cons]
      omega
  have := key r (0, 0) hx hy h
  unfold rkP at this
  rw [List.length_cons]
  dsimp only at this
  omega
/-- what a value is as a place -/
def isPl (n m : Nat) (d : D) : Bool := match d with
  | .tup [a, b] => isIntD a 0 ((n : Int) - 1) && isIntD b 0 ((m : Int) - 1)
  | _ => false
theorem isPl_some {n m : Nat} {d : D} (h : isPl n m d = true) : ∃ p : Pl, d = plD p ∧ p.1 < n ∧ p.2 < m := by
  unfold isPl at h
  split at h
  · rename_i a b
    obtain ⟨h1, h2⟩ := Bool.and_eq_true_iff.mp h
    unfold isIntD at h1 h2
    split at h1
    · rename_i i
      split at h2
      · rename_i j
        simp only [Bool.and_eq_true, decide_eq_true_eq] at h1 h2
        refine ⟨(i.toNat, j.toNat), ?_, by dsimp only; omega, by dsimp only; omega⟩
        unfold plD
        dsimp only
        rw [Int.toNat_of_nonneg h1.1, Int.toNat_of_nonneg h2.1]
      · cases h2
    · cases h1
  · cases h
theorem isPl_pl {n m : Nat} {p : Pl} (h1 : p.1 < n) (h2 : p.2 < m) : isPl n m (plD p) = true := by
  unfold isPl plD isIntD
  dsimp only
  simp only [Bool.and_eq_true, decide_eq_true_eq]
  omega
theorem isPls : ∀ {ds : List D} {n m : Nat}, (∀ d ∈ ds, isPl n m d = true) → ∃ w : List Pl, ds = w.map plD ∧ ∀ p ∈ w, p.1 < n ∧ p.2 < m
  | [], _, _, _ => ⟨[], rfl, nofun⟩
  | d :: ds, n, m, h => by
    obtain ⟨p, rfl, hp⟩ := isPl_some (h d List.mem_cons_self)
    obtain ⟨w, rfl, hw⟩ := isPls fun e he => h e (List.mem_cons_of_mem _ he)
    exact ⟨p :: w, rfl, fun q hq => (List.mem_cons.mp hq).elim (fun z => by rw [z]; exact hp) (hw q)⟩
theorem plD_inj {p q : Pl} (h : plD p = plD q) : p = q := by
  unfold plD at h
  simp only [D.tup.injEq, List.cons.injEq, D.int.injEq, and_true] at h
  exact Prod.ext (by omega) (by omega)
theorem walkD_inj {v w : List Pl} (h : walkD v = walkD w) : v = w := by
  unfold walkD at h
  simp only [D.tup.injEq] at h
  exact List.map_inj_right (fun _ _ => plD_inj) |>.mp h
theorem iw_b0 (hη : Pu η) {v d : D} {r4 : Option D} (hd : d.deep = true) : is_walk_b0 [some (serD xs), some (serD ys), some v, some d, r4] η = if !isPl xs.length ys.length d then .rt (.bl false) η else .nx [some (serD xs), some (serD ys), some v, some d, r4] η := by
  cases d with
  | tup l =>
    have hl := deeps_mem (show D.deeps l = true from hd)
    match l with
    | [] => simp -implicitDefEqProofs [is_walk_b0, e_sSeq, isTy, isPl]
    | [a] => simp -implicitDefEqProofs [is_walk_b0, e_sSeq, isTy, isPl]
    | a :: b :: c :: l =>
      have : ¬ ((l.length : Int) + 1 + 1 + 1 = 2) := by omega
      simp -implicitDefEqProofs [is_walk_b0, e_sSeq, isTy, isPl, this]
    | [a, b] =>
      have ha := is_int_ok (v := a) (lo := 0) (hi := (xs.length : Int) - 1) hη (deep_told (hl a (by simp)))
      have hb := is_int_ok (v := b) (lo := 0) (hi := (ys.length : Int) - 1) hη (deep_told (hl b (by simp)))
      cases h1 : isIntD a 0 ((xs.length : Int) - 1) <;> cases h2 : isIntD b 0 ((ys.length : Int) - 1) <;> simp -implicitDefEqProofs [is_walk_b0, e_sSeq, isTy, isPl, ha, hb, h1, h2]
  | _ => first
    | (cases hd; done)
    | (simp -implicitDefEqProofs [is_walk_b0, e_sSeq, isTy, isPl]; done)
open Classical in
/-- whether a value is a walk -/
noncomputable def isWalkB (xs ys : List Int) (v : D) : Bool := decide (∃ w, v = walkD w ∧ Walk xs.length ys.length none w)
open Classical in
theorem isWalkB_iff {v : D} : isWalkB xs ys v = true ↔ ∃ w, v = walkD w ∧ Walk xs.length ys.length none w := by
  unfold isWalkB
  exact decide_eq_true_iff
theorem isWalkB_no {v : D} (h : ¬ ∃ w, v = walkD w ∧ Walk xs.length ys.length none w) : isWalkB xs ys v = false := Bool.eq_false_iff.mpr fun z => h (isWalkB_iff.mp z)
theorem iw_c0 (hη : Pu η) {w : List Pl} {r3 r4 : Option D} (hl : w.length ≤ 80) : is_walk_c0 [some (serD xs), some (serD ys), some (walkD w), r3, r4] η = .ok (.lst ((w.zip (w.drop 1)).map fun x => .bl (decide (x.2 ∈ nexts xs.length ys.length x.1)))) η := by
  refine fLc_all (fun x : Pl × Pl => .tup [plD x.1, plD x.2]) (fun x => .bl (decide (x.2 ∈ nexts xs.length ys.length x.1))) (w.zip (w.drop 1)) ?_ ?_ fun x _ => ⟨[some (serD xs), some (serD ys), some (walkD w), some (plD x.1), some (plD x.2)], by simp -implicitDefEqProofs, ?_⟩
  · simp -implicitDefEqProofs [walkD, itZip, itZ]
    rw [← List.map_tail, List.zip_map, List.map_map]
    rfl
  · rw [List.length_zip, List.length_drop, sizeLine_eq]
    omega
  · have tn := told_next_ok (η := η) (xs := xs) (ys := ys) (p := x.1) hη
    simp -implicitDefEqProofs [is_walk_e0, tn, in_pls]
theorem all_bls {α : Type} {η : Store} {l : List α} {f : α → Bool} : dAll η [.lst (l.map fun a => .bl (f a))] = some (.bl (l.all f)) := by
  simp [dAll, unAll_bl]
theorem is_walk_ok {v : D} (hη : Pu η) (hx : Ser xs) (hy : Ser ys) (hv : v.deep = true) : φ_is_walk [serD xs, serD ys, v] η = .ok (.bl (isWalkB xs ys v)) η := by
  show exitR η.length (fs_is_walk _ η) = _
  have e : fs_is_walk (startD 5 [serD xs, serD ys, v]) η = .rt (.bl (isWalkB xs ys v)) η := by
    by_cases ht : ∃ ds, v = .tup ds ∧ 1 ≤ ds.length ∧ ds.length ≤ 80
    · obtain ⟨ds, rfl, l1, l2⟩ := ht
      have hds := deeps_mem (show D.deeps ds = true from hv)
      have n1 : ¬ ((ds.length : Int) = 0) := by omega
      have n0 : ¬ ds = [] := fun z => by subst z; simp at l1
      have n2 : ¬ ((80 : Int) < (ds.length : Int)) := by omega
      have mm : dMul η (.int 2) (.int 40) = some (.int 80) := mul_ok (a := 2) (b := 40) (by decide) (by decide) (by decide) (by decide)
      have F := forL_find (g := gN 3) (b := is_walk_b0) (η := η) id (fun ρ => ∃ r3 r4, ρ = [some (serD xs), some (serD ys), some (.tup ds), r3, r4]) (fun d => !isPl xs.length ys.length d) (fun _ => .bl false) ds [some (serD xs), some (serD ys), some (.tup ds), none, none] ⟨_, _, rfl⟩ (fun d hd ρ ⟨r3, r4, hρ⟩ => by
        subst hρ
        refine ⟨_, rfl, ?_⟩
        have b0 := iw_b0 (xs := xs) (ys := ys) (v := .tup ds) (d := d) (r4 := r4) hη (hds d hd)
        have b0' : is_walk_b0 ([some (serD xs), some (serD ys), some (.tup ds), r3, r4].set 3 (some d)) η = _ := b0
        cases hb : isPl xs.length ys.length d with
        | true =>
          rw [hb] at b0'
          simp only [Bool.not_true, Bool.false_eq_true, if_false]
          exact ⟨_, b0', _, _, rfl⟩
        | false =>
          rw [hb] at b0'
          simp only [Bool.not_false, if_true]
          exact b0')
      rw [List.map_id] at F
      have l0 : is_walk_l0 [some (serD xs), some (serD ys), some (.tup ds), none, none] η = forL (gN 3) is_walk_b0 ds [some (serD xs), some (serD ys), some (.tup ds), none, none] η := sFor_eq (by simp -implicitDefEqProofs)
      cases hf : ds.find? (fun d => !isPl xs.length ys.length d) with
      | some d =>
        rw [hf] at F
        dsimp only at F
        have hw : isWalkB xs ys (.tup ds) = false := by
          refine isWalkB_no ?_
          rintro ⟨w, h1, h2⟩
          have hd := List.mem_of_find?_eq_some hf
          have hn := List.find?_some hf
          simp only [walkD, D.tup.injEq] at h1
          rw [h1] at hd
          obtain ⟨p, hp, rfl⟩ := List.mem_map.mp hd
          obtain ⟨a, b⟩ := walk_in h2 hx.lo hy.lo p hp
          rw [isPl_pl a b] at hn
          cases hn
        rw [hw]
        simp -implicitDefEqProofs [fs_is_walk, startD, e_sSeq, look_ser hη hx hy, isTy, n0, n2, mm, l0, F]
      | none =>
        rw [hf] at F
        obtain ⟨ρ', F, r3, r4, rfl⟩ := F
        obtain ⟨w, rfl, hw⟩ := isPls (ds := ds) (n := xs.length) (m := ys.length) fun d hd => by
          have := List.find?_eq_none.mp hf d hd
          simpa using this
        rw [List.length_map] at l1 l2
        match w, l1, hw with
        | p :: w, l1, hw =>
        have c0 := iw_c0 (xs := xs) (ys := ys) (r3 := r3) (r4 := r4) hη (w := p :: w) l2
        have hlast : dIx η (walkD (p :: w)) (.int (-1)) = some (plD ((p :: w).getLast (List.cons_ne_nil _ _))) := by
          show atI ((p :: w).map plD) (-1) = _
          rw [atI_last (xs := (p :: w).map plD) (by simp), List.getLast_map]
        have hfirst : dIx η (walkD (p :: w)) (.int 0) = some (plD p) := ixt0
        have hlen : dLen η [walkD (p :: w)] = some (.int ((p :: w).length : Nat)) := by simp [walkD]
        have hty : tyD η (walkD (p :: w)) = some .tup := rfl
        have n1' : ¬ ((((p :: w).length : Nat) : Int) = 0) := by rw [List.length_cons]; omega
        have n2' : ¬ ((80 : Int) < (((p :: w).length : Nat) : Int)) := by omega
        have res : isWalkB xs ys (walkD (p :: w)) = (decide (p = (0, 0)) && (decide ((p :: w).getLast (List.cons_ne_nil _ _) = endP xs.length ys.length) && ((p :: w).zip ((p :: w).drop 1)).all fun x => decide (x.2 ∈ nexts xs.length ys.length x.1))) := by
          rw [Bool.eq_iff_iff]
          simp only [isWalkB_iff, decide_eq_true_eq, Bool.and_eq_true, List.all_eq_true]
          rw [List.drop_one, List.tail_cons, ← path_iff (nx := nexts xs.length ys.length)]
          constructor
          · rintro ⟨u, h1, r, h2, h3⟩
            obtain rfl := walkD_inj h1
            cases h2
            rw [nx_none] at h3
            exact ⟨rfl, h3⟩
          · rintro ⟨rfl, h⟩
            refine ⟨_, rfl, _, rfl, ?_⟩
            rw [nx_none]
            exact h
        have lo1 := hx.lo
        have lo2 := hy.lo
        show fs_is_walk (startD 5 [serD xs, serD ys, walkD (p :: w)]) η = .rt (.bl (isWalkB xs ys (walkD (p :: w)))) η
        have l0' : is_walk_l0 [some (serD xs), some (serD ys), some (walkD (p :: w)), none, none] η = .nx [some (serD xs), some (serD ys), some (walkD (p :: w)), r3, r4] η := l0.trans F
        have ab := all_bls (η := η) (l := (p :: w).zip ((p :: w).drop 1)) (f := fun x => decide (x.2 ∈ nexts xs.length ys.length x.1))
        rw [res]
        have e1 : ((p.1 : Int) = 0 ∧ (p.2 : Int) = 0) ↔ p = (0, 0) := ⟨fun ⟨a, b⟩ => Prod.ext (by dsimp only; omega) (by dsimp only; omega), fun z => by subst z; exact ⟨rfl, rfl⟩⟩
        have ne1 : dNe η (plD p) (.tup [.int 0, .int 0]) = some (.bl (!decide (p = (0, 0)))) := by rw [pl_eq, ne_pl, decide_eq_decide.mpr e1]
        have ne2 : dNe η (plD ((p :: w).getLast (List.cons_ne_nil _ _))) (.tup [.int ((xs.length : Int) - 1), .int ((ys.length : Int) - 1)]) = some (.bl (!decide ((p :: w).getLast (List.cons_ne_nil _ _) = endP xs.length ys.length))) := by
          generalize (p :: w).getLast (List.cons_ne_nil _ _) = q
          have e2 : ((q.1 : Int) = (xs.length : Int) - 1 ∧ (q.2 : Int) = (ys.length : Int) - 1) ↔ q = endP xs.length ys.length := ⟨fun ⟨a, b⟩ => Prod.ext (show q.1 = xs.length - 1 by omega) (show q.2 = ys.length - 1 by omega), fun z => by subst z; unfold endP; dsimp only; omega⟩
          rw [pl_eq, ne_pl, decide_eq_decide.mpr e2]
        generalize decide ((p :: w).getLast (List.cons_ne_nil _ _) = endP xs.length ys.length) = b2 at *
        generalize decide (p = (0, 0)) = b1 at *
        generalize plD ((p :: w).getLast (List.cons_ne_nil _ _)) = q at *
        generalize plD p = p1 at *
        generalize walkD (p :: w) = wd at *
        generalize ((p :: w).zip ((p :: w).drop 1)).all (fun x => decide (x.2 ∈ nexts xs.length ys.length x.1)) = al at *
        generalize ((p :: w).zip ((p :: w).drop 1)).map (fun x => D.bl (decide (x.2 ∈ nexts xs.length ys.length x.1))) = al2 at *
        generalize (((p :: w).length : Nat) : Int) = len at *
        cases b1 <;> cases b2 <;>
          simp -implicitDefEqProofs [fs_is_walk, startD, e_sSeq, look_ser hη hx hy, isTy, hty, hlen, n1', n2', mm, l0', hfirst, hlast, ne1, ne2, c0, ab]
    · have hw : isWalkB xs ys v = false := by
        refine isWalkB_no ?_
        rintro ⟨w, rfl, h2⟩
        have := walk_len h2 hx.lo hy.lo
        have := hx.hi
        have := hy.hi
        exact ht ⟨w.map plD, rfl, by rw [List.length_map]; omega, by rw [List.length_map]; omega⟩
      rw [hw]
      have mm : dMul η (.int 2) (.int 40) = some (.int 80) := mul_ok (a := 2) (b := 40) (by decide) (by decide) (by decide) (by decide)
      cases v with
      | tup ds =>
        by_cases n1 : ds.length = 0
        · have n1' : ds = [] := List.length_eq_zero_iff.mp n1
          simp -implicitDefEqProofs [fs_is_walk, startD, e_sSeq, look_ser hη hx hy, isTy, n1']
        · have n1' : ¬ ds = [] := fun z => n1 (by rw [z]; rfl)
          have n2 : (80 : Int) < (ds.length : Int) := by
            by_cases q : ds.length ≤ 80
            · exact absurd ⟨ds, rfl, by omega, q⟩ ht
            · omega
          simp -implicitDefEqProofs [fs_is_walk, startD, e_sSeq, look_ser hη hx hy, isTy, n1', n2, mm]
      | _ => first
        | (cases hv; done)
        | (simp -implicitDefEqProofs [fs_is_walk, startD, e_sSeq, look_ser hη hx hy, isTy]; done)
  exact (congrArg _ e).trans (exit_rt0 hη rfl)
end
end K71
set_option Elab.async false
set_option linter.all false
set_option maxRecDepth 100000
set_option maxHeartbeats 2000000
namespace Dn
open PySem PySem.Spec PyProof.Rows L2
/-! ### what is shown tells tuples of integers apart from all else -/
def sh (p : PyData) : List Nat := p.shown.cps.toList
def isDg (c : Nat) : Bool := decide (c = 45) || (decide (48 ≤ c) && decide (c ≤ 57))
theorem sh_int (i : Int) : sh (.int i) = (toString i).toList.map Char.toNat := by
  unfold sh
  rw [PyData.shown_int]
  exact signs_ofString _
theorem sh_int_dg (i : Int) : ∀ c ∈ sh (.int i), isDg c = true := by
  intro c hc
  rw [sh_int] at hc
  obtain ⟨ch, h, rfl⟩ := List.mem_map.mp hc
  unfold isDg
  rcases int_sign i ch h with hd | hd
  · have := digit_range hd
    simp only [Bool.or_eq_true, Bool.and_eq_true, decide_eq_true_eq]
    exact .inr this
  · rw [hd]
    decide
theorem sh_int_inj {i j : Int} (h : sh (.int i) = sh (.int j)) : i = j := by
  rw [sh_int, sh_int] at h
  have h2 : (toString i).toList = (toString j).toList := (List.map_inj_right fun a b e => Char.toNat_inj.mp e).mp h
  have h3 : (toString i) = (toString j) := String.toList_inj.mp h2
  rw [Int.toString_eq_repr, Int.toString_eq_repr] at h3
  exact Int.repr_injective h3
theorem sh_int_ne (i : Int) : sh (.int i) ≠ [] := by
  rw [sh_int]
  intro z
  have z := List.map_eq_nil_iff.mp z
  rw [Int.toString_eq_repr, Int.repr_eq_if] at z
  split at z
  · rw [Nat.toList_repr] at z
    exact Nat.toDigits_ne_nil z
  · rw [String.toList_append] at z
    have := (List.append_eq_nil_iff.mp z).1
    simp at this
theorem repr_head (x : Str) : ∃ r, (reprText x).cps.toList = reprQuote x :: r := by
  unfold reprText
  have key : ∀ (l : List Nat) (acc : Array Nat) (r : List Nat), acc.toList = reprQuote x :: r → ∃ r', (l.foldl (fun out c => out ++ (Builtin.Str.reprChar (reprQuote x) c).toArray) acc).toList = reprQuote x :: r' := by
    intro l
    induction l with
    | nil => exact fun acc r h => ⟨r, h⟩
    | cons c l ih =>
      intro acc r h
      rw [List.foldl_cons]
      refine ih _ (r ++ Builtin.Str.reprChar (reprQuote x) c) ?_
      rw [Array.toList_append, h]
      simp
  obtain ⟨r, h⟩ := key x.cps.toList #[reprQuote x] [] rfl
  refine ⟨r ++ [reprQuote x], ?_⟩
  rw [Array.toList_push, ← Array.foldl_toList, h]
  rfl
/-- the first sign -/
theorem sh_head (p : PyData) : ∃ c r, sh p = c :: r ∧ c ≠ 41 ∧ (isDg c = true → ∃ i, p = .int i) ∧ (c = 40 → ∃ ps, p = .tuple ps) := by
  cases p with
  | none => exact ⟨78, [111, 110, 101], by unfold sh; rw [PyData.shown_none]; decide, by decide, fun h => absurd h (by decide), fun h => absurd h (by decide)⟩
  | bool b =>
    cases b
    · exact ⟨70, [97, 108, 115, 101], by unfold sh; rw [PyData.shown_bool]; show (Str.ofString "False").cps.toList = _; decide, by decide, fun h => absurd h (by decide), fun h => absurd h (by decide)⟩
    · exact ⟨84, [114, 117, 101], by unfold sh; rw [PyData.shown_bool]; show (Str.ofString "True").cps.toList = _; decide, by decide, fun h => absurd h (by decide), fun h => absurd h (by decide)⟩
  | int i =>
    obtain ⟨c, r, h⟩ := List.exists_cons_of_ne_nil (sh_int_ne i)
    have hc := sh_int_dg i c (by rw [h]; exact List.mem_cons_self)
    refine ⟨c, r, h, ?_, fun _ => ⟨i, rfl⟩, ?_⟩
    · rintro rfl
      cases hc
    · rintro rfl
      cases hc
  | str x =>
    obtain ⟨r, h⟩ := repr_head x
    have hq : reprQuote x = 34 ∨ reprQuote x = 39 := by
      unfold reprQuote
      split
      · exact .inl rfl
      · exact .inr rfl
    refine ⟨reprQuote x, r, by unfold sh; rw [PyData.shown_str]; exact h, ?_, ?_, ?_⟩
    · rcases hq with q | q <;> rw [q] <;> decide
    · rcases hq with q | q <;> rw [q] <;> exact fun h => absurd h (by decide)
    · rcases hq with q | q <;> rw [q] <;> exact fun h => absurd h (by decide)
  | list xs => exact ⟨91, (Str.join ", " (PyData.shownAll xs) ++ ("]" : Str)).cps.toList, by unfold sh; rw [PyData.shown_list, cps_toList_append, cps_toList_append, cps_toList_append, signs_lbrack]; rfl, by decide, fun h => absurd h (by decide), fun h => absurd h (by decide)⟩
  | tuple xs =>
    refine ⟨40, (Str.join ", " (PyData.shownAll xs) ++ ((if (PyData.shownAll xs).length == 1 then ",)" else ")" : String) : Str)).cps.toList, ?_, by decide, fun h => absurd h (by decide), fun _ => ⟨xs, rfl⟩⟩
    unfold sh
    rw [PyData.shown, tupleText, cps_toList_append, cps_toList_append, cps_toList_append, signs_lparen]
    rfl
  | dict kvs =>
    refine ⟨123, (Str.join ", " (PyData.shownKv kvs) ++ ("}" : Str)).cps.toList, ?_, by decide, fun h => absurd h (by decide), fun h => absurd h (by decide)⟩
    unfold sh
    rw [PyData.shown_dict, cps_toList_append, cps_toList_append, cps_toList_append, show (("{" : String) : Str).cps.toList = [123] by decide]
    rfl
/-- behind the first element of a tuple -/
def shF : List PyData → List Nat
  | [] => [41]
  | x :: xs => 44 :: 32 :: (sh x ++ shF xs)
def shE : List PyData → List Nat
  | [] => [41]
  | [x] => sh x ++ [44, 41]
  | x :: y :: r => sh x ++ shF (y :: r)
theorem join_F : ∀ (x : PyData) (xs : List PyData), (Str.join ", " (PyData.shownAll (x :: xs))).cps.toList ++ [41] = sh x ++ shF xs
  | x, [] => by
    simp only [PyData.shownAll_cons, PyData.shownAll_nil, Str.join]
    rfl
  | x, y :: r => by
    have ih := join_F y r
    rw [PyData.shownAll_cons] at ih
    rw [PyData.shownAll_cons, PyData.shownAll_cons, Str.join, cps_toList_append, cps_toList_append, signs_sep, shF, List.append_assoc, List.append_assoc, ih]
    · rfl
    · intro z; cases z
theorem sh_tuple (xs : List PyData) : sh (.tuple xs) = 40 :: shE xs := by
  unfold sh
  rw [PyData.shown, tupleText, cps_toList_append, cps_toList_append, signs_lparen]
  match xs with
  | [] => decide
  | [x] =>
    simp only [PyData.shownAll_cons, PyData.shownAll_nil, Str.join, List.length_cons, List.length_nil, shE]
    show [40] ++ x.shown.cps.toList ++ (Str.ofString ",)").cps.toList = _
    rw [show (Str.ofString ",)").cps.toList = [44, 41] by decide]
    rfl
  | x :: y :: r =>
    have hl : ((PyData.shownAll (x :: y :: r)).length == 1) = false := by
      rw [PyData.shownAll_length]
      simp
    rw [hl]
    simp only [Bool.false_eq_true, if_false]
    show ([40] ++ (Str.join ", " (PyData.shownAll (x :: y :: r))).cps.toList) ++ (Str.ofString ")").cps.toList = _
    rw [show (Str.ofString ")").cps.toList = [41] by decide, List.append_assoc, join_F]
    rfl
def stop (l : List Nat) : Prop := l = [] ∨ ∃ r, l = 41 :: r ∨ l = 44 :: r
/-- q's text tells q -/
def Code (q : PyData) : Prop := ∀ (p : PyData) (s t : List Nat), sh p ++ s = sh q ++ t → stop s → stop t → p = q ∧ s = t
theorem stop_dg {l : List Nat} (h : stop l) : l.takeWhile isDg = [] := by
  rcases h with rfl | ⟨r, rfl | rfl⟩ <;> rfl
theorem code_int (i : Int) : Code (.int i) := by
  intro p s t h hs ht
  obtain ⟨c, r, e, _, h1, _⟩ := sh_head p
  obtain ⟨d, r', e'⟩ := List.exists_cons_of_ne_nil (sh_int_ne i)
  have hd := sh_int_dg i d (by rw [e']; exact List.mem_cons_self)
  have hcd : c = d := by
    rw [e, e'] at h
    exact (List.cons.inj h).1
  obtain ⟨j, rfl⟩ := h1 (by rw [hcd]; exact hd)
  have hj : (sh (.int j) ++ s).takeWhile isDg = sh (.int j) := by
    rw [List.takeWhile_append_of_pos (sh_int_dg j), stop_dg hs, List.append_nil]
  have hi : (sh (.int i) ++ t).takeWhile isDg = sh (.int i) := by
    rw [List.takeWhile_append_of_pos (sh_int_dg i), stop_dg ht, List.append_nil]
  have hij : sh (.int j) = sh (.int i) := by rw [← hj, ← hi, h]
  refine ⟨by rw [sh_int_inj hij], ?_⟩
  rw [hij] at h
  exact List.append_cancel_left h
theorem stop_F {xs : List PyData} {s : List Nat} : stop (shF xs ++ s) := by
  cases xs with
  | nil => exact .inr ⟨_, .inl rfl⟩
  | cons x xs => exact .inr ⟨_, .inr rfl⟩
theorem code_F : ∀ {qs : List PyData}, (∀ q ∈ qs, Code q) → ∀ (ps : List PyData) (s t : List Nat), shF ps ++ s = shF qs ++ t → ps = qs ∧ s = t
  | [], _, [], s, t, h => ⟨rfl, by simpa [shF] using h⟩
  | [], _, p :: ps, s, t, h => by simp [shF] at h
  | q :: qs, _, [], s, t, h => by simp [shF] at h
  | q :: qs, hq, p :: ps, s, t, h => by
    simp only [shF, List.cons_append, List.cons.injEq, true_and, List.append_assoc] at h
    obtain ⟨rfl, h2⟩ := hq q List.mem_cons_self p _ _ h stop_F stop_F
    obtain ⟨rfl, rfl⟩ := code_F (fun q hq' => hq q (List.mem_cons_of_mem _ hq')) ps s t h2
    exact ⟨rfl, rfl⟩
theorem code_tuple {qs : List PyData} (hq : ∀ q ∈ qs, Code q) : Code (.tuple qs) := by
  intro p s t h _ _
  rw [sh_tuple] at h
  obtain ⟨c, r, e, _, _, h1⟩ := sh_head p
  obtain ⟨ps, rfl⟩ := h1 (by rw [e] at h; exact (List.cons.inj h).1)
  rw [sh_tuple] at h
  have h : shE ps ++ s = shE qs ++ t := (List.cons.inj h).2
  have no41 : ∀ (x : PyData) (u v : List Nat), sh x ++ u ≠ 41 :: v := fun x u v z => by
    obtain ⟨c, r, e, hc, _, _⟩ := sh_head x
    rw [e] at z
    exact hc (List.cons.inj z).1
  match ps, qs, hq, h with
  | [], [], _, h => exact ⟨rfl, by simpa [shE] using h⟩
  | [], [q], _, h =>
    simp only [shE, List.append_assoc, List.cons_append, List.nil_append] at h
    exact absurd h.symm (no41 q _ _)
  | [], q :: q2 :: qs, _, h =>
    simp only [shE, List.append_assoc, List.cons_append, List.nil_append] at h
    exact absurd h.symm (no41 q _ _)
  | [p], [], _, h =>
    simp only [shE, List.append_assoc, List.cons_append, List.nil_append] at h
    exact absurd h (no41 p _ _)
  | p :: p2 :: ps, [], _, h =>
    simp only [shE, List.append_assoc, List.cons_append, List.nil_append] at h
    exact absurd h (no41 p _ _)
  | [p], [q], hq, h =>
    simp only [shE, List.append_assoc] at h
    obtain ⟨rfl, h2⟩ := hq q List.mem_cons_self p _ _ h (.inr ⟨_, .inr rfl⟩) (.inr ⟨_, .inr rfl⟩)
    exact ⟨rfl, by simpa using h2⟩
  | [p], q :: q2 :: qs, hq, h =>
    simp only [shE, List.append_assoc] at h
    obtain ⟨rfl, h2⟩ := hq q List.mem_cons_self p _ _ h (.inr ⟨_, .inr rfl⟩) stop_F
    simp [shF] at h2
  | p :: p2 :: ps, [q], hq, h =>
    simp only [shE, List.append_assoc] at h
    obtain ⟨rfl, h2⟩ := hq q List.mem_cons_self p _ _ h stop_F (.inr ⟨_, .inr rfl⟩)
    simp [shF] at h2
  | p :: p2 :: ps, q :: q2 :: qs, hq, h =>
    simp only [shE, List.append_assoc] at h
    obtain ⟨rfl, h2⟩ := hq q List.mem_cons_self p _ _ h stop_F stop_F
    obtain ⟨h3, rfl⟩ := code_F (fun q hq' => hq q (List.mem_cons_of_mem _ hq')) (p2 :: ps) s t h2
    exact ⟨by rw [h3], rfl⟩
theorem code_shown {p q : PyData} (hq : Code q) (h : p.shown = q.shown) : p = q :=
  (hq p [] [] (by rw [List.append_nil, List.append_nil]; unfold sh; rw [h]) (.inl rfl) (.inl rfl)).1
end Dn
set_option Elab.async false
set_option linter.all false
set_option maxRecDepth 100000
set_option maxHeartbeats 2000000
namespace Dn
open PySem PySem.Spec PyProof.Rows L2
/-! ### values that can be shown -/
mutual
def D.nice : D → Bool
  | .non => true
  | .bl _ => true
  | .int i => decide (i.natAbs < 10 ^ 25)
  | .str x => decide (x.length ≤ 100) && x.cps.toList.all fun c => decide (c < 16 ^ 8)
  | .tup xs => D.nices xs
  | .lst xs => D.nices xs
  | .dK _ _ => false
  | .dT _ _ => false
  | .scr _ => false
  | .ref _ => false
  | .exc _ _ => false
def D.nices : List D → Bool
  | [] => true
  | x :: xs => D.nice x && D.nices xs
end
mutual
def D.wt : D → Nat
  | .int _ => 100
  | .str x => x.length
  | .tup xs => D.wts xs
  | .lst xs => D.wts xs
  | _ => 0
def D.wts : List D → Nat
  | [] => 0
  | x :: xs => D.wt x + 1 + D.wts xs
end
mutual
def D.dp : D → Nat
  | .tup xs => D.dps xs + 1
  | .lst xs => D.dps xs + 1
  | _ => 0
def D.dps : List D → Nat
  | [] => 0
  | x :: xs => max (D.dp x) (D.dps xs)
end
theorem nices_iff : ∀ {xs : List D}, D.nices xs = true ↔ ∀ x ∈ xs, x.nice = true
  | [] => by simp [D.nices]
  | x :: xs => by rw [D.nices, Bool.and_eq_true, nices_iff, List.forall_mem_cons]
theorem wts_append : ∀ (xs ys : List D), D.wts (xs ++ ys) = D.wts xs + D.wts ys
  | [], ys => by simp [D.wts]
  | x :: xs, ys => by rw [List.cons_append, D.wts, D.wts, wts_append xs ys]; omega
theorem dps_le : ∀ {xs : List D} {k : Nat}, D.dps xs ≤ k ↔ ∀ x ∈ xs, x.dp ≤ k
  | [], k => by simp [D.dps]
  | x :: xs, k => by rw [D.dps, Nat.max_le, dps_le, List.forall_mem_cons]
theorem wts_mem : ∀ {xs : List D} {x : D}, x ∈ xs → x.wt + 1 ≤ D.wts xs
  | y :: ys, x, h => by
    rw [D.wts]
    rcases List.mem_cons.mp h with rfl | h
    · omega
    · have := wts_mem h
      omega
theorem wts_rev : ∀ (xs : List D), D.wts xs.reverse = D.wts xs
  | [] => rfl
  | x :: xs => by rw [List.reverse_cons, wts_append, wts_rev xs, D.wts, D.wts, D.wts]; omega
theorem wts_cut {xs : List D} {lo hi : Option Int} : D.wts (cutD xs lo hi) ≤ D.wts xs := by
  unfold cutD
  generalize HT.sIx xs.length 0 lo = a
  generalize HT.sIx xs.length xs.length hi = b
  have h1 : D.wts xs = D.wts (xs.take a) + D.wts (xs.drop a) := by rw [← wts_append, List.take_append_drop]
  have h2 : D.wts (xs.drop a) = D.wts ((xs.drop a).take (b - a)) + D.wts ((xs.drop a).drop (b - a)) := by rw [← wts_append, List.take_append_drop]
  omega
theorem cut_mem {α : Type} {xs : List α} {lo hi : Option Int} {x : α} (h : x ∈ cutD xs lo hi) : x ∈ xs := List.mem_of_mem_drop (List.mem_of_mem_take h)
/-- within limits -/
structure Nice (n k : Nat) (d : D) : Prop where
  ok : d.nice = true
  wt : d.wt ≤ n
  dp : d.dp ≤ k
structure NiceL (n k : Nat) (xs : List D) : Prop where
  ok : ∀ x ∈ xs, x.nice = true
  wt : D.wts xs ≤ n
  dp : ∀ x ∈ xs, x.dp ≤ k
theorem Nice.tup {n k : Nat} {xs : List D} (h : NiceL n k xs) : Nice n (k + 1) (.tup xs) := ⟨nices_iff.mpr h.ok, h.wt, Nat.succ_le_succ (dps_le.mpr h.dp)⟩
theorem Nice.lst {n k : Nat} {xs : List D} (h : NiceL n k xs) : Nice n (k + 1) (.lst xs) := ⟨nices_iff.mpr h.ok, h.wt, Nat.succ_le_succ (dps_le.mpr h.dp)⟩
theorem Nice.of_tup {n k : Nat} {xs : List D} (h : Nice n k (.tup xs)) : NiceL n (k - 1) xs := ⟨nices_iff.mp h.ok, h.wt, fun x hx => by
  have h1 : D.dps xs + 1 ≤ k := h.dp
  exact dps_le.mp (show D.dps xs ≤ k - 1 by omega) x hx⟩
theorem Nice.mono {n k n' k' : Nat} {d : D} (h : Nice n k d) (h1 : n ≤ n') (h2 : k ≤ k') : Nice n' k' d := ⟨h.ok, Nat.le_trans h.wt h1, Nat.le_trans h.dp h2⟩
theorem NiceL.append {n k m : Nat} {xs ys : List D} (h : NiceL n k xs) (g : NiceL m k ys) : NiceL (n + m) k (xs ++ ys) :=
  ⟨fun x hx => (List.mem_append.mp hx).elim (h.ok x) (g.ok x), by rw [wts_append]; have := h.wt; have := g.wt; omega, fun x hx => (List.mem_append.mp hx).elim (h.dp x) (g.dp x)⟩
theorem NiceL.cut {n k : Nat} {xs : List D} {lo hi : Option Int} (h : NiceL n k xs) : NiceL n k (cutD xs lo hi) :=
  ⟨fun x hx => h.ok x (cut_mem hx), Nat.le_trans wts_cut h.wt, fun x hx => h.dp x (cut_mem hx)⟩
theorem NiceL.rev {n k : Nat} {xs : List D} (h : NiceL n k xs) : NiceL n k xs.reverse :=
  ⟨fun x hx => h.ok x (List.mem_reverse.mp hx), by rw [wts_rev]; exact h.wt, fun x hx => h.dp x (List.mem_reverse.mp hx)⟩
mutual
theorem nice_deep : ∀ (d : D), d.nice = true → d.deep = true
  | .non, _ => rfl
  | .bl _, _ => rfl
  | .int _, _ => rfl
  | .str _, _ => rfl
  | .tup xs, h => nices_deep xs h
  | .lst xs, h => nices_deep xs h
theorem nices_deep : ∀ (ds : List D), D.nices ds = true → D.deeps ds = true
  | [], _ => rfl
  | d :: ds, h => by
    unfold D.nices at h
    obtain ⟨h1, h2⟩ := Bool.and_eq_true_iff.mp h
    unfold D.deeps
    rw [nice_deep d h1, nices_deep ds h2]
    rfl
end
theorem log_lt {n k : Nat} (h : n < 2 ^ k) (hk : 0 < k) : n.log2 < k := by
  by_cases z : n = 0
  · rw [z]
    exact hk
  · exact (Nat.log2_lt z).mpr h
mutual
/-- as data -/
theorem nice_data : ∀ (d : D), d.nice = true → ∃ p, toP0 d = some p ∧ p.leavesShort 40 = true ∧ p.showable = true ∧ p.weight ≤ d.wt ∧ p.depth = d.dp
  | .non, _ => ⟨.none, rfl, rfl, rfl, Nat.le_refl _, rfl⟩
  | .bl b, _ => ⟨.bool b, rfl, rfl, rfl, Nat.le_refl _, rfl⟩
  | .int i, h => by
    have h : i.natAbs < 10 ^ 25 := of_decide_eq_true h
    have h2 : i.natAbs.log2 < 84 := log_lt (Nat.lt_trans h (by decide)) (by decide)
    refine ⟨.int i, rfl, ?_, ?_, ?_, rfl⟩
    · simp only [PyData.leavesShort, decide_eq_true_eq]
      have e := int_text_length_le10 (k := 25) (by decide) h
      show (Str.ofString (toString i)).length ≤ 40
      rw [PySem.ofString_length]
      omega
    · simp only [PyData.showable, decide_eq_true_eq]
      omega
    · simp only [PyData.weight, D.wt]
      split <;> omega
  | .str x, h => by
    obtain ⟨h1, h2⟩ := Bool.and_eq_true_iff.mp (show (decide (x.length ≤ 100) && x.cps.toList.all fun c => decide (c < 16 ^ 8)) = true from h)
    refine ⟨.str x, rfl, ?_, rfl, ?_, rfl⟩
    · simp only [PyData.leavesShort]
      exact h2
    · exact Nat.le_refl _
  | .tup xs, h => by
    obtain ⟨ps, e, h1, h2, h3, h4⟩ := nices_data xs h
    refine ⟨.tuple ps, by rw [toP0, e]; rfl, ?_, ?_, ?_, ?_⟩
    · simp only [PyData.leavesShort]; exact h1
    · simp only [PyData.showable]; exact h2
    · simp only [PyData.weight]; exact h3
    · simp only [PyData.depth, D.dp, h4]
  | .lst xs, h => by
    obtain ⟨ps, e, h1, h2, h3, h4⟩ := nices_data xs h
    refine ⟨.list ps, by rw [toP0, e]; rfl, ?_, ?_, ?_, ?_⟩
    · simp only [PyData.leavesShort]; exact h1
    · simp only [PyData.showable]; exact h2
    · simp only [PyData.weight]; exact h3
    · simp only [PyData.depth, D.dp, h4]
theorem nices_data : ∀ (ds : List D), D.nices ds = true → ∃ ps, toPs ds = some ps ∧ PyData.leavesShortAll 40 ps = true ∧ PyData.showableAll ps = true ∧ PyData.weightAll ps ≤ D.wts ds ∧ PyData.depthAll ps = D.dps ds
  | [], _ => ⟨[], rfl, rfl, rfl, Nat.le_refl _, rfl⟩
  | d :: ds, h => by
    unfold D.nices at h
    obtain ⟨h1, h2⟩ := Bool.and_eq_true_iff.mp h
    obtain ⟨p, e1, a1, b1, c1, d1⟩ := nice_data d h1
    obtain ⟨ps, e2, a2, b2, c2, d2⟩ := nices_data ds h2
    refine ⟨p :: ps, toPs_cons e1 e2, ?_, ?_, ?_, ?_⟩
    · simp only [PyData.leavesShortAll, a1, a2, Bool.and_self]
    · simp only [PyData.showableAll, b1, b2, Bool.and_self]
    · simp only [PyData.weightAll, D.wts]; omega
    · simp only [PyData.depthAll, D.dps, d1, d2]
end
theorem toR_deep {η : Store} {d : D} (h : d.nice = true) : toR η d = toP0 d := by
  cases d <;> first | rfl | cases h
theorem repr_nice {η : Store} {d : D} (h : Nice 100000 30 d) : ∃ p, toP0 d = some p ∧ dRepr η [d] = some (.str p.shown) := by
  obtain ⟨p, e, h1, h2, h3, h4⟩ := nice_data d h.ok
  refine ⟨p, e, ?_⟩
  unfold dRepr
  dsimp only
  rw [toR_deep h.ok, e]
  dsimp only
  have hl := PyData.shown_le 40 (by decide) p h1
  have hw := h.wt
  have hd := h.dp
  rw [if_pos ⟨h2, by omega, by rw [sizeLine_eq]; omega⟩]
/-- {'a': 1} -/
def a1D : D := .dK [.inr "a"] [.int 1]
theorem repr_a1 {η : Store} : dRepr η [a1D] = some (.str (PyData.dict [(.str "a", .int 1)]).shown) := by
  have e : toR η a1D = some (.dict [(.str "a", .int 1)]) := rfl
  unfold dRepr
  dsimp only
  rw [e]
  dsimp only
  rw [if_pos]
  refine ⟨by decide +kernel, by decide +kernel, ?_⟩
  have : (PyData.dict [(.str "a", .int 1)]).shown.length = 8 := by decide +kernel
  rw [this, sizeLine_eq]
  omega
/-- {} -/
def d0D : D := .dK [] []
theorem repr_d0 {η : Store} : dRepr η [d0D] = some (.str (PyData.dict []).shown) := by
  have e : toR η d0D = some (.dict []) := rfl
  unfold dRepr
  dsimp only
  rw [e]
  dsimp only
  rw [if_pos]
  refine ⟨by decide +kernel, by decide +kernel, ?_⟩
  have : (PyData.dict []).shown.length = 2 := by decide +kernel
  rw [this, sizeLine_eq]
  omega
/-- what the law's values are -/
def Top (d : D) : Prop := Nice 100000 30 d ∨ d = a1D ∨ d = d0D
theorem Top.deep {d : D} (h : Top d) : d.deep = true := by
  rcases h with h | rfl | rfl
  · exact nice_deep d h.ok
  · rfl
  · rfl
end Dn
namespace K71
open PySem PySem.Spec PyProof.Rows L2 Dn
def plP (p : Pl) : PyData := .tuple [.int p.1, .int p.2]
def walkP (w : List Pl) : PyData := .tuple (w.map plP)
theorem code_walk (w : List Pl) : Code (walkP w) := code_tuple fun q hq => by
  obtain ⟨p, _, rfl⟩ := List.mem_map.mp hq
  exact code_tuple fun q hq => by
    simp only [List.mem_cons, List.not_mem_nil, or_false] at hq
    rcases hq with rfl | rfl <;> exact code_int _
theorem walk_data (w : List Pl) : toP0 (walkD w) = some (walkP w) := by
  show (toPs (w.map plD)).map PyData.tuple = _
  rw [pls_toPs]
  rfl
theorem toP_pl_inv {d : D} {p : Pl} (h : toP0 d = some (plP p)) : d = plD p := by
  cases d with
  | tup xs =>
    rw [toP0] at h
    obtain ⟨ps, h1, h2⟩ := Option.map_eq_some_iff.mp h
    unfold plP at h2
    simp only [PyData.tuple.injEq] at h2
    subst h2
    match xs, h1 with
    | [], h1 => cases h1
    | x :: xs, h1 =>
    obtain ⟨q, qs, e1, e2, e3⟩ := toPs_inv h1
    cases e3
    match xs, e2 with
    | [], e2 => cases e2
    | y :: ys, e2 =>
    obtain ⟨q, qs, f1, f2, f3⟩ := toPs_inv e2
    cases f3
    match ys, f2 with
    | z :: zs, f2 =>
      obtain ⟨_, _, _, _, g⟩ := toPs_inv f2
      cases g
    | [], f2 =>
      have int_of : ∀ {d : D} {i : Int}, toP0 d = some (.int i) → d = .int i := fun {d i} h => by
        cases d with
        | int j => cases h; rfl
        | tup xs => rw [toP0] at h; obtain ⟨_, _, z⟩ := Option.map_eq_some_iff.mp h; cases z
        | lst xs => rw [toP0] at h; obtain ⟨_, _, z⟩ := Option.map_eq_some_iff.mp h; cases z
        | _ => cases h
      rw [int_of e1, int_of f1]
      rfl
  | lst xs => rw [toP0] at h; obtain ⟨_, _, z⟩ := Option.map_eq_some_iff.mp h; cases z
  | _ => cases h
theorem toPs_pls_inv : ∀ {ds : List D} {w : List Pl}, toPs ds = some (w.map plP) → ds = w.map plD
  | [], [], _ => rfl
  | [], p :: w, h => by cases h
  | d :: ds, w, h => by
    obtain ⟨q, qs, e1, e2, e3⟩ := toPs_inv h
    match w, e3 with
    | p :: w, e3 =>
    cases e3
    rw [toP_pl_inv e1, toPs_pls_inv e2]
    rfl
theorem toP_walk_inv {d : D} {w : List Pl} (h : toP0 d = some (walkP w)) : d = walkD w := by
  cases d with
  | tup xs =>
    rw [toP0] at h
    obtain ⟨ps, h1, h2⟩ := Option.map_eq_some_iff.mp h
    unfold walkP at h2
    simp only [PyData.tuple.injEq] at h2
    subst h2
    rw [toPs_pls_inv h1]
    rfl
  | lst xs => rw [toP0] at h; obtain ⟨_, _, z⟩ := Option.map_eq_some_iff.mp h; cases z
  | _ => cases h
/-- the text of a walk -/
def walkS (w : List Pl) : Str := (walkP w).shown
theorem repr_top {η : Store} {d : D} (h : Top d) : ∃ s, dRepr η [d] = some (.str s) ∧ ∀ w, s = walkS w ↔ d = walkD w := by
  rcases h with h | rfl | rfl
  · obtain ⟨p, e, h2⟩ := repr_nice (η := η) h
    refine ⟨_, h2, fun w => ⟨fun z => ?_, ?_⟩⟩
    · have := code_shown (code_walk w) z
      subst this
      exact toP_walk_inv e
    · rintro rfl
      rw [walk_data] at e
      cases e
      rfl
  · refine ⟨_, repr_a1, fun w => ⟨fun z => ?_, fun z => by cases z⟩⟩
    have := code_shown (code_walk w) z
    cases this
  · refine ⟨_, repr_d0, fun w => ⟨fun z => ?_, fun z => by cases z⟩⟩
    have := code_shown (code_walk w) z
    cases this
theorem places_nice {w : List Pl} (h : ∀ p ∈ w, p.1 < 1000 ∧ p.2 < 1000) : NiceL (w.length * 203) 1 (w.map plD) := by
  refine ⟨fun x hx => ?_, ?_, fun x hx => ?_⟩
  · obtain ⟨p, hp, rfl⟩ := List.mem_map.mp hx
    obtain ⟨h1, h2⟩ := h p hp
    simp only [plD, D.nice, D.nices, Bool.and_true, Bool.and_eq_true, decide_eq_true_eq, Int.natAbs_natCast]
    have : (10 : Nat) ^ 25 = 10000000000000000000000000 := by decide
    omega
  · clear h
    induction w with
    | nil => exact Nat.le_refl _
    | cons p w ih =>
      rw [List.map_cons, D.wts, List.length_cons]
      have : (plD p).wt = 202 := rfl
      omega
  · obtain ⟨p, hp, rfl⟩ := List.mem_map.mp hx
    exact Nat.le_refl _
theorem walk_nice {w : List Pl} (h : ∀ p ∈ w, p.1 < 1000 ∧ p.2 < 1000) : Nice (w.length * 203) 2 (walkD w) := Nice.tup (places_nice h)
theorem repr_walk {η : Store} {w : List Pl} (h : ∀ p ∈ w, p.1 < 1000 ∧ p.2 < 1000) (hl : w.length ≤ 400) : dRepr η [walkD w] = some (.str (walkS w)) := by
  obtain ⟨p, e, h2⟩ := repr_nice (η := η) ((walk_nice h).mono (n' := 100000) (k' := 30) (by omega) (by decide))
  rw [walk_data] at e
  cases e
  exact h2
end K71
set_option Elab.async false
set_option linter.all false
set_option maxRecDepth 100000
set_option maxHeartbeats 2000000
namespace Dn
open PySem PySem.Spec PyProof.Rows L2
theorem fits_lit {α : Type} {xs : List α} {n : Nat} (h : xs.length = n) (hn : n ≤ 1000 := by decide) : fits xs = true := fits_le (by omega)
theorem add_lst {η : Store} {a b : List D} (h : a.length + b.length ≤ 1000000) : dAdd η (.lst a) (.lst b) = some (.lst (a ++ b)) := by
  show (if a.length + b.length ≤ sizeLine then some (D.lst (a ++ b)) else none) = _
  rw [if_pos (by rw [sizeLine_eq]; omega)]
theorem add_tup {η : Store} {a b : List D} (h : a.length + b.length ≤ 1000000) : dAdd η (.tup a) (.tup b) = some (.tup (a ++ b)) := by
  show (if a.length + b.length ≤ sizeLine then some (D.tup (a ++ b)) else none) = _
  rw [if_pos (by rw [sizeLine_eq]; omega)]
theorem add_str {η : Store} {a b : Str} (h : a.length + b.length ≤ 1000000) : dAdd η (.str a) (.str b) = some (.str (a ++ b)) := by
  show (if a.length + b.length ≤ sizeLine then some (D.str (a ++ b)) else none) = _
  rw [if_pos (by rw [sizeLine_eq]; omega)]
@[simp] theorem sl_tup {η : Store} {xs : List D} {lo hi : Option Int} : dSl η (.tup xs) lo hi = some (.tup (cutD xs lo hi)) := rfl
@[simp] theorem back_tup {η : Store} {xs : List D} : dBack η (.tup xs) = some (.tup xs.reverse) := rfl
theorem cut_len {α : Type} {xs : List α} {lo hi : Option Int} : (cutD xs lo hi).length ≤ xs.length := by
  unfold cutD
  rw [List.length_take, List.length_drop]
  omega
theorem pow_20 {η : Store} : dPow η (.int 10) (.int 20) = some (.int (10 ^ 20)) := by
  unfold dPow
  dsimp only
  rw [if_pos (by decide +kernel)]
  rfl
theorem pow_9 {η : Store} : dPow η (.int 10) (.int 9) = some (.int 1000000000) := by
  unfold dPow
  dsimp only
  rw [if_pos (by decide +kernel)]
  rfl
theorem pow_6 {η : Store} : dPow η (.int 10) (.int 6) = some (.int 1000000) := by
  unfold dPow
  dsimp only
  rw [if_pos (by decide +kernel)]
  rfl
theorem ne_nilT {η : Store} {xs : List D} (h : D.nices xs = true) : dNe η (.tup xs) (.tup []) = some (.bl (decide (xs ≠ []))) := by
  obtain ⟨ps, e, _⟩ := nices_data xs h
  have e1 : toP η (.tup xs) = some (.tuple ps) := by
    show (toPs xs).map PyData.tuple = _
    rw [e]
    rfl
  have e2 : toP η (.tup []) = some (.tuple []) := rfl
  unfold dNe
  rw [e1, e2]
  dsimp only
  rw [if_pos (Nat.le_trans (Nat.min_le_right _ _) (by decide))]
  cases xs with
  | nil => cases e; rfl
  | cons a l =>
    obtain ⟨p, qs, _, _, rfl⟩ := toPs_inv e
    rfl
/-- what bent is asked of -/
def InB : Nat → D → Prop
  | 0, _ => False
  | k + 1, d => (∃ i : Int, d = .int i ∧ i.natAbs < 10 ^ 12) ∨ d = .str "walk" ∨ ∃ xs, d = .tup xs ∧ xs.length ≤ 1000 ∧ ∀ x ∈ xs, InB k x
theorem InB.succ : ∀ {k : Nat} {d : D}, InB k d → InB (k + 1) d
  | k + 1, d, h => by
    rcases h with h | h | ⟨xs, rfl, hl, h⟩
    · exact .inl h
    · exact .inr (.inl h)
    · exact .inr (.inr ⟨xs, rfl, hl, fun x hx => (h x hx).succ⟩)
theorem InB.nice : ∀ {k : Nat} {d : D}, InB k d → d.nice = true ∧ d.dp ≤ k
  | k + 1, d, h => by
    rcases h with ⟨i, rfl, hi⟩ | rfl | ⟨xs, rfl, hl, h⟩
    · have : (10 : Nat) ^ 12 ≤ 10 ^ 25 := by decide
      exact ⟨decide_eq_true (by omega), Nat.zero_le _⟩
    · exact ⟨by decide, Nat.zero_le _⟩
    · exact ⟨nices_iff.mpr fun x hx => (h x hx).nice.1, Nat.succ_le_succ (dps_le.mpr fun x hx => (h x hx).nice.2)⟩
end Dn
namespace K71
open PySem PySem.Spec PyProof.Rows L2 Dn
def oddL : List D := [.non, .bl true, .bl false, .int 0, .int 1, .int (-1), .int 2, .int 33, .int (10 ^ 20), .str "", .str "a", .str "-", .tup [], .lst [], d0D, .tup [.int 0], .tup [.tup []], .lst [.int 1], .tup [.tup [.str "a", .str "a"]],
  .tup [.int 0, .int 1], .tup [.non], a1D, .tup [.tup [.int 0, .int 1], .tup [.int 1, .int 2]], .tup [.int 2, .int 1, .int 0], .tup [.tup [.bl true]], .tup [.str "none", .int 3], .tup [.str "ones"]]
theorem odd_top : ∀ d ∈ oddL, Top d := by
  have key : ∀ d : D, (d.nice && decide (d.wt ≤ 1000) && decide (d.dp ≤ 10)) = true → Top d := fun d h => by
    simp only [Bool.and_eq_true, decide_eq_true_eq] at h
    exact .inl ⟨h.1.1, by omega, by omega⟩
  unfold oddL
  intro d hd
  simp only [List.mem_cons, List.not_mem_nil, or_false] at hd
  rcases hd with rfl | rfl | rfl | rfl | rfl | rfl | rfl | rfl | rfl | rfl | rfl | rfl | rfl | rfl | rfl | rfl | rfl | rfl | rfl | rfl | rfl | rfl | rfl | rfl | rfl | rfl | rfl
  case _ => exact key _ (by decide +kernel)
  all_goals first
    | exact .inr (.inl rfl)
    | exact .inr (.inr rfl)
    | exact key _ (by decide +kernel)
theorem odd_ok {η : Store} {i b : Nat} (hη : Pu η) (hp : Pot η i b) (hb : b < 1000000) : ∃ (d : D) (η' : Store), φ__law_odd [.ref i] η = .ok d η' ∧ Top d ∧ Pu η' ∧ Pot η' i (b + 1) ∧ Same i η η' := by
  obtain ⟨d, η', e, hd, h1, h2, h3⟩ := of_ok (xs := oddL) hη hp (by omega) nofun (by decide) (by decide +kernel)
  refine ⟨d, η', ?_, odd_top d hd, h1, h2, h3⟩
  show exitR η.length (fs__law_odd _ η) = _
  have e' : fs__law_odd (startD 2 [.ref i]) η = .rt d η' := by
    have f21 : ∀ {a1 a2 a3 a4 a5 a6 a7 a8 a9 a10 a11 a12 a13 a14 a15 a16 a17 a18 a19 : D}, fits [a1, a2, a3, a4, a5, a6, a7, a8, a9, a10, a11, a12, a13, a14, a15, a16, a17, a18, a19] = true := fits_le (by simp)
    have f8 : ∀ {a1 a2 a3 a4 a5 a6 a7 a8 : D}, fits [a1, a2, a3, a4, a5, a6, a7, a8] = true := fits_le (by simp)
    have al := add_lst (η := η) (a := [.non, .bl true, .bl false, .int 0, .int 1, .int (-1), .int 2, .int 33, .int (10 ^ 20), .str "", .str "a", .str "-", .tup [], .lst [], d0D, .tup [.int 0], .tup [.tup []], .lst [.int 1], .tup [.tup [.str "a", .str "a"]]])
      (b := [.tup [.int 0, .int 1], .tup [.non], a1D, .tup [.tup [.int 0, .int 1], .tup [.int 1, .int 2]], .tup [.int 2, .int 1, .int 0], .tup [.tup [.bl true]], .tup [.str "none", .int 3], .tup [.str "ones"]]) (by decide)
    have e0 : φ__law_of [.ref i, .lst ([.non, .bl true, .bl false, .int 0, .int 1, .int (-1), .int 2, .int 33, .int (10 ^ 20), .str "", .str "a", .str "-", .tup [], .lst [], d0D, .tup [.int 0], .tup [.tup []], .lst [.int 1], .tup [.tup [.str "a", .str "a"]]] ++
      [.tup [.int 0, .int 1], .tup [.non], a1D, .tup [.tup [.int 0, .int 1], .tup [.int 1, .int 2]], .tup [.int 2, .int 1, .int 0], .tup [.tup [.bl true]], .tup [.str "none", .int 3], .tup [.str "ones"]])] η = .ok d η' := e
    unfold fs__law_odd
    rw [seq_nx (ρ' := [some (.ref i), some (.lst [.non, .bl true, .bl false, .int 0, .int 1, .int (-1), .int 2, .int 33, .int (10 ^ 20), .str "", .str "a", .str "-", .tup [], .lst [], d0D, .tup [.int 0], .tup [.tup []], .lst [.int 1], .tup [.tup [.str "a", .str "a"]]])]) (η' := η)
      (by simp only [startD, List.map_cons, List.map_nil, List.length_cons, List.length_nil, List.replicate, List.cons_append, List.nil_append, e_sSet, e_lst, e_cons, e_nil, e_C, e_1, e_2, e_tup, e_DK0, R.bind_ok, R.of_some, R.thn_ok, Dn.neg_int, pow_20, fits0, fits1, fits2, f21, if_true, List.set_cons_succ, List.set_cons_zero]; rfl)]
    rw [seq_nx (ρ' := [some (.ref i), some (.lst ([.non, .bl true, .bl false, .int 0, .int 1, .int (-1), .int 2, .int 33, .int (10 ^ 20), .str "", .str "a", .str "-", .tup [], .lst [], d0D, .tup [.int 0], .tup [.tup []], .lst [.int 1], .tup [.tup [.str "a", .str "a"]]] ++
      [.tup [.int 0, .int 1], .tup [.non], a1D, .tup [.tup [.int 0, .int 1], .tup [.int 1, .int 2]], .tup [.int 2, .int 1, .int 0], .tup [.tup [.bl true]], .tup [.str "none", .int 3], .tup [.str "ones"]]))]) (η' := η)
      (by
        simp only [e_sSet, e_lst, e_cons, e_nil, e_C, e_1, e_2, e_tup, e_DK1, e_var, List.getElem?_cons_succ, List.getElem?_cons_zero, Option.bind_some, id_eq, R.bind_ok, R.of_some, R.thn_ok, fits0, fits1, fits2, fits3, f8, if_true, List.set_cons_succ, List.set_cons_zero]
        rw [show (D.dK [.inr "a"] [.int 1]) = a1D from rfl, al]
        rfl)]
    generalize ([.non, .bl true, .bl false, .int 0, .int 1, .int (-1), .int 2, .int 33, .int (10 ^ 20), .str "", .str "a", .str "-", .tup [], .lst [], d0D, .tup [.int 0], .tup [.tup []], .lst [.int 1], .tup [.tup [.str "a", .str "a"]]] ++
      [.tup [.int 0, .int 1], .tup [.non], a1D, .tup [.tup [.int 0, .int 1], .tup [.int 1, .int 2]], .tup [.int 2, .int 1, .int 0], .tup [.tup [.bl true]], .tup [.str "none", .int 3], .tup [.str "ones"]] : List D) = L at e0
    simp -implicitDefEqProofs [e0]
  have hpu : d.pure = true := deep_pure d (odd_top d hd).deep
  exact (congrArg _ e').trans (exit_rt' h3.len.symm h1 hpu)
end K71
set_option Elab.async false
set_option linter.all false
set_option maxRecDepth 100000
set_option maxHeartbeats 2000000
namespace Dn
open PySem PySem.Spec PyProof.Rows L2
theorem str_ok {η : Store} {i : Int} (h : i.natAbs < 10 ^ 12) : dStr η [.int i] = some (.str (toString i)) := by
  have : i.natAbs.log2 < 40 := log_lt (Nat.lt_trans h (by decide)) (by decide)
  show (if i.natAbs.log2 < 1920 then some (D.str (toString i)) else none) = _
  rw [if_pos (by omega)]
theorem str_nice {i : Int} (h : i.natAbs < 10 ^ 12) : (D.str (toString i)).nice = true ∧ (D.str (toString i)).wt ≤ 13 := by
  have e := int_text_length_le10 (k := 12) (by decide) h
  have hl : ((toString i : String) : Str).length ≤ 13 := by
    rw [PySem.ofString_length]
    exact e
  refine ⟨?_, hl⟩
  show (decide (((toString i : String) : Str).length ≤ 100) && ((toString i : String) : Str).cps.toList.all fun c => decide (c < 16 ^ 8)) = true
  rw [Bool.and_eq_true]
  refine ⟨decide_eq_true (by omega), List.all_eq_true.mpr fun c hc => ?_⟩
  rw [signs_ofString] at hc
  obtain ⟨ch, h1, rfl⟩ := List.mem_map.mp hc
  have e8 : (16 : Nat) ^ 8 = 4294967296 := by decide
  rcases int_sign i ch h1 with hd | hd
  · have := digit_range hd
    exact decide_eq_true (by omega)
  · rw [hd]
    decide
theorem int_nice {i : Int} (h : i.natAbs ≤ 10 ^ 20) : Nice 100 0 (.int i) := by
  have : (10 : Nat) ^ 20 < 10 ^ 25 := by decide
  exact ⟨decide_eq_true (by omega), Nat.le_refl _, Nat.le_refl _⟩
theorem non_nice {n k : Nat} : Nice n k .non := ⟨rfl, Nat.zero_le _, Nat.zero_le _⟩
theorem bl_nice {n k : Nat} {b : Bool} : Nice n k (.bl b) := ⟨rfl, Nat.zero_le _, Nat.zero_le _⟩
theorem nil_nice {n k : Nat} : NiceL n k [] := ⟨nofun, Nat.zero_le _, nofun⟩
theorem NiceL.mono {n k n' k' : Nat} {xs : List D} (h : NiceL n k xs) (h1 : n ≤ n') (h2 : k ≤ k') : NiceL n' k' xs := ⟨h.ok, Nat.le_trans h.wt h1, fun x hx => Nat.le_trans (h.dp x hx) h2⟩
theorem NiceL.one {n k : Nat} {d : D} (h : Nice n k d) : NiceL (n + 1) k [d] := ⟨fun x hx => by rw [List.mem_singleton.mp hx]; exact h.ok, by show d.wt + 1 + 0 ≤ _; have := h.wt; omega, fun x hx => by rw [List.mem_singleton.mp hx]; exact h.dp⟩
theorem InB.niceL {k : Nat} {xs : List D} (h : ∀ x ∈ xs, InB k x) : NiceL (D.wts xs) k xs := ⟨fun x hx => (h x hx).nice.1, Nat.le_refl _, fun x hx => (h x hx).nice.2⟩
theorem nice_pures {n k : Nat} {xs : List D} (h : ∀ x ∈ xs, Nice n k x) : D.pures xs = true := deeps_pure xs (deeps_of fun x hx => nice_deep x (h x hx).ok)
end Dn
namespace K71
open PySem PySem.Spec PyProof.Rows L2 Dn
/-- bent's outcome, at most so heavy -/
abbrev bB (k W : Nat) : Nat := k * (2 * W + 300)
theorem bent_ok : ∀ (k : Nat) (d : D) (η : Store) (i b : Nat), InB k d → Pu η → Pot η i b → b + 2 * k < 1000000 → ∃ (d' : D) (η' : Store), φ__law_bent k [.ref i, d] η = .ok d' η' ∧ Nice (bB k d.wt) (k + 1) d' ∧ Pu η' ∧ Pot η' i (b + 2 * k) ∧ Same i η η'
  | k + 1, d, η, i, b, hin, hη, hp, hb => by
    have f8 : ∀ {a1 a2 a3 a4 a5 a6 a7 a8 : D}, fits [a1, a2, a3, a4, a5, a6, a7, a8] = true := fits_le (by simp)
    have f7 : ∀ {a1 a2 a3 a4 a5 a6 a7 : D}, fits [a1, a2, a3, a4, a5, a6, a7] = true := fits_le (by simp)
    -- the answers of law_of
    have choice : ∀ (η : Store) (b : Nat) (L : List D), Pu η → Pot η i b → b < 1000000 → L ≠ [] → L.length ≤ 10 → (∀ x ∈ L, Nice (bB (k + 1) d.wt) (k + 2) x) → ∃ (d' : D) (η' : Store), φ__law_of [.ref i, .lst L] η = .ok d' η' ∧ Nice (bB (k + 1) d.wt) (k + 2) d' ∧ Pu η' ∧ Pot η' i (b + 1) ∧ Same i η η' := fun η b L hη hp hb hne hl hL => by
      obtain ⟨d', η', e, hd, h1, h2, h3⟩ := of_ok (xs := L) hη hp (by omega) hne (by omega) (nice_pures hL)
      exact ⟨d', η', e, hL d' hd, h1, h2, h3⟩
    have fin : ∀ {d' : D} {η' : Store}, Nice (bB (k + 1) d.wt) (k + 2) d' → Pu η' → η'.length = η.length → fs__law_bent (φ__law_bent k) (startD 3 [.ref i, d]) η = .rt d' η' → φ__law_bent (k + 1) [.ref i, d] η = .ok d' η' := fun {d' η'} hn hp hl e => by
      show exitR η.length (fs__law_bent (φ__law_bent k) _ η) = _
      exact (congrArg _ e).trans (exit_rt' hl.symm hp (deep_pure _ (nice_deep _ hn.ok)))
    rcases hin with ⟨j, rfl, hj⟩ | rfl | ⟨xs, rfl, hl, hx⟩
    · have hw : (D.int j).wt = 100 := rfl
      have hb2 : 100 ≤ bB (k + 1) (D.int j).wt := by
        show 100 ≤ (k + 1) * _
        rw [hw]
        have := Nat.mul_le_mul_right (2 * 100 + 300) (show 1 ≤ k + 1 by omega)
        omega
      have e20 : (10 : Nat) ^ 12 + 1 ≤ 10 ^ 20 := by decide
      obtain ⟨sn1, sn2⟩ := str_nice hj
      have ii : ∀ {z : Int}, z.natAbs ≤ 10 ^ 20 → Nice (bB (k + 1) (D.int j).wt) (k + 2) (.int z) := fun h => (int_nice h).mono hb2 (by omega)
      obtain ⟨d', η', e, h1, h2, h3, h4⟩ := choice η b [.int (j + 1), .int (j - 1), .int (-j - 1), .str (toString j), .bl (decide (j = 1)), .non, .tup [.int j], .int 1000000000] hη hp (by omega) (by simp) (by simp) (by
        intro x hx
        simp only [List.mem_cons, List.not_mem_nil, or_false] at hx
        rcases hx with rfl | rfl | rfl | rfl | rfl | rfl | rfl | rfl
        · exact ii (by omega)
        · exact ii (by omega)
        · exact ii (by omega)
        · exact ⟨sn1, by omega, Nat.zero_le _⟩
        · exact bl_nice
        · exact non_nice
        · exact (Nice.tup (NiceL.one (int_nice (i := j) (by omega)))).mono (by show 101 ≤ (k + 1) * _; rw [hw]; have := Nat.mul_le_mul_right (2 * 100 + 300) (show 1 ≤ k + 1 by omega); omega) (by omega)
        · exact ii (by decide))
      refine ⟨d', η', fin h1 h2 h4.len ?_, h1, h2, h3.mono (by omega), h4⟩
      have s := str_ok (η := η) hj
      clear sn1 sn2
      generalize Str.ofString (toString j) = sj at *
      simp -implicitDefEqProofs [fs__law_bent, startD, e_sSeq, _law_bent_s0, _law_bent_s1, _law_bent_s2, isTy, s, pow_9, f8, e]
    · have hb2 : 300 ≤ bB (k + 1) (D.str "walk").wt := by
        show 300 ≤ (k + 1) * _
        have := Nat.mul_le_mul_right (2 * (D.str "walk").wt + 300) (show 1 ≤ k + 1 by omega)
        omega
      have nn : ∀ {x : D}, (x.nice && decide (x.wt ≤ 300) && decide (x.dp ≤ 2)) = true → Nice (bB (k + 1) (D.str "walk").wt) (k + 2) x := fun {x} h => by
        simp only [Bool.and_eq_true, decide_eq_true_eq] at h
        have hdp : x.dp = 0 ∨ 1 ≤ x.dp := by omega
        exact ⟨h.1.1, by omega, by omega⟩
      have hs : dSl η (.str "walk") (some 1) none = some (.str "alk") := by
        show (if (Str.ofString "walk").length ≤ sizeLine then some (D.str (cutS (Str.ofString "walk") (some 1) none)) else none) = _
        rw [if_pos (by decide), show cutS (Str.ofString "walk") (some 1) none = Str.ofString "alk" by decide +kernel]
      obtain ⟨d', η', e, h1, h2, h3, h4⟩ := choice η b [.str ("walk" ++ "a"), .str "alk", .str (Txt.upper "walk"), .str "", .non, .int 0] hη hp (by omega) (by simp) (by simp) (by
        intro x hx
        simp only [List.mem_cons, List.not_mem_nil, or_false] at hx
        rcases hx with rfl | rfl | rfl | rfl | rfl | rfl
        · exact nn (by decide +kernel)
        · exact nn (by decide +kernel)
        · exact nn (by decide +kernel)
        · exact nn (by decide +kernel)
        · exact non_nice
        · exact nn (by decide +kernel))
      refine ⟨d', η', fin h1 h2 h4.len ?_, h1, h2, h3.mono (by omega), h4⟩
      have a := add_str (η := η) (a := "walk") (b := "a") (by decide)
      have mu : mUpper η (.str "walk") [] = some (.str (Txt.upper "walk"), η) := by
        show (if (Str.ofString "walk").length ≤ 5592405 then some (D.str (Txt.upper "walk"), η) else none) = _
        rw [if_pos (by decide)]
      simp -implicitDefEqProofs [fs__law_bent, startD, e_sSeq, _law_bent_s0, _law_bent_s1, _law_bent_s2, _law_bent_s3, isTy, a, hs, mu, e]
    · have hN := InB.niceL hx
      have hni := (InB.nice (k := k + 1) (d := .tup xs) (.inr (.inr ⟨xs, rfl, hl, hx⟩))).1
      have hw : (D.tup xs).wt = D.wts xs := rfl
      have hW : 2 * D.wts xs + 300 ≤ bB (k + 1) (D.tup xs).wt := by
        show _ ≤ (k + 1) * (2 * D.wts xs + 300)
        have := Nat.mul_le_mul_right (2 * D.wts xs + 300) (show 1 ≤ k + 1 by omega)
        omega
      have tl : ∀ {n : Nat} {ys : List D}, NiceL n k ys → n ≤ 2 * D.wts xs + 300 → Nice (bB (k + 1) (D.tup xs).wt) (k + 2) (.tup ys) := fun h hn => (Nice.tup h).mono (by omega) (by omega)
      -- without going deeper
      have flat : ∀ (η1 : Store) (b1 : Nat), Pu η1 → Pot η1 i b1 → b1 < 1000000 → ∃ (d' : D) (η' : Store), _law_bent_s0 [some (.ref i), some (.tup xs), none] η1 = .rt d' η' ∧ Nice (bB (k + 1) (D.tup xs).wt) (k + 2) d' ∧ Pu η' ∧ Pot η' i (b1 + 1) ∧ Same i η1 η' := fun η1 b1 hη1 hp1 hb1 => by
        obtain ⟨d', η', e, h1, h2, h3, h4⟩ := choice η1 b1 [.lst xs, .tup (cutD xs (some 1) none), .tup (cutD xs none (some (-1))), .tup (xs ++ cutD xs (some (-1)) none), .tup xs.reverse, .tup [], .non] hη1 hp1 hb1 (by simp) (by simp) (by
          intro x hx
          simp only [List.mem_cons, List.not_mem_nil, or_false] at hx
          rcases hx with rfl | rfl | rfl | rfl | rfl | rfl | rfl
          · exact (Nice.lst hN).mono (by omega) (by omega)
          · exact tl hN.cut (by omega)
          · exact tl hN.cut (by omega)
          · exact tl (hN.append hN.cut) (by omega)
          · exact tl hN.rev (by omega)
          · exact tl (n := 0) nil_nice (by omega)
          · exact non_nice)
        refine ⟨d', η', ?_, h1, h2, h3, h4⟩
        have a := add_tup (η := η1) (a := xs) (b := cutD xs (some (-1)) none) (by have := cut_len (xs := xs) (lo := some (-1)) (hi := none); omega)
        simp -implicitDefEqProofs [-sl_tail, _law_bent_s0, isTy, f7, a, e]
      have nt := ne_nilT (η := η) (xs := xs) hni
      by_cases hne : xs = []
      · obtain ⟨d', η', e, h1, h2, h3, h4⟩ := flat η b hη hp (by omega)
        refine ⟨d', η', fin h1 h2 h4.len ?_, h1, h2, h3.mono (by omega), h4⟩
        simp only [hne, ne_eq, not_true_eq_false, decide_false] at nt
        subst hne
        simp -implicitDefEqProofs [fs__law_bent, startD, e_sSeq, isTy, nt, e]
      · have hlen : 0 < xs.length := List.length_pos_iff.mpr hne
        obtain ⟨n5, η1, e5, n50, n51, p1, q1, s1⟩ := take_ok (upto := 5) hη hp (by omega) (by decide) (by decide)
        by_cases h5 : 0 < n5
        · obtain ⟨a, η2, e6, a0, a1, p2, q2, s2⟩ := take_ok (upto := (xs.length : Int)) p1 q1 (by omega) (by omega) (by omega)
          obtain ⟨at_, rfl⟩ := Int.eq_ofNat_of_zero_le a0
          have hat : at_ < xs.length := by omega
          obtain ⟨r, η3, e7, hr, p3, q3, s3⟩ := bent_ok k xs[at_] η2 i (b + 1 + 1) (hx _ (List.getElem_mem hat)) p2 q2 (by omega)
          have hmem := wts_mem (List.getElem_mem hat)
          have ix : dIx η2 (.tup xs) (.int (at_ : Nat)) = some xs[at_] := (Dn.ix_tup).trans (Dn.atI_nat hat)
          have c1 := cut_len (xs := xs) (lo := none) (hi := some (at_ : Int))
          have c2 := cut_len (xs := xs) (lo := some ((at_ : Int) + 1)) (hi := none)
          have w1 := wts_cut (xs := xs) (lo := none) (hi := some (at_ : Int))
          have w2 := wts_cut (xs := xs) (lo := some ((at_ : Int) + 1)) (hi := none)
          have hrn : Nice (bB (k + 1) (D.tup xs).wt) (k + 2) (.tup ((cutD xs none (some (at_ : Int)) ++ [r]) ++ cutD xs (some ((at_ : Int) + 1)) none)) := by
            have hk : bB k xs[at_].wt ≤ k * (2 * D.wts xs + 300) := Nat.mul_le_mul_left _ (by omega)
            have h1 : NiceL (D.wts xs) (k + 1) (cutD xs none (some (at_ : Int))) := hN.cut.mono (Nat.le_refl _) (by omega)
            have h2 : NiceL (D.wts xs) (k + 1) (cutD xs (some ((at_ : Int) + 1)) none) := hN.cut.mono (Nat.le_refl _) (by omega)
            refine (Nice.tup ((h1.append (NiceL.one hr)).append h2)).mono ?_ (by omega)
            show D.wts xs + (bB k xs[at_].wt + 1) + D.wts xs ≤ (k + 1) * (2 * D.wts xs + 300)
            rw [Nat.succ_mul]
            omega
          refine ⟨_, η3, fin hrn p3 (by rw [s3.len, s2.len, s1.len]) ?_, hrn, p3, q3.mono (by omega), s1.trans (s2.trans s3)⟩
          have ad1 := add_tup (η := η3) (a := cutD xs none (some (at_ : Int))) (b := [r]) (by rw [List.length_singleton]; omega)
          have ad2 := add_tup (η := η3) (a := cutD xs none (some (at_ : Int)) ++ [r]) (b := cutD xs (some ((at_ : Int) + 1)) none) (by rw [List.length_append, List.length_singleton]; omega)
          simp only [ne_eq, hne, not_false_eq_true, decide_true] at nt
          simp only [List.append_assoc] at ad2 ⊢
          simp -implicitDefEqProofs [fs__law_bent, startD, e_sSeq, isTy, nt, e5, h5, e6, ix, e7, ad1, ad2]
        · obtain ⟨d', η', e, h1, h2, h3, h4⟩ := flat η1 (b + 1) p1 q1 (by omega)
          refine ⟨d', η', fin h1 h2 (by rw [h4.len, s1.len]) ?_, h1, h2, h3.mono (by omega), s1.trans h4⟩
          simp only [ne_eq, hne, not_false_eq_true, decide_true] at nt
          simp -implicitDefEqProofs [fs__law_bent, startD, e_sSeq, isTy, nt, e5, h5, e]
end K71
set_option Elab.async false
set_option linter.all false
set_option maxRecDepth 100000
set_option maxHeartbeats 2000000
namespace Dn
open PySem PySem.Spec PyProof.Rows L2
theorem ne_nil_ref {η : Store} {i : Nat} {xs : List D} {ps : List PyData} (h : η[i]? = some (.l xs)) (hp : toPs xs = some ps) : dNe η (.ref i) (.lst []) = some (.bl (decide (xs ≠ []))) := by
  have e1 : toP η (.ref i) = some (.list ps) := by
    simp only [toP, h, hp]
    rfl
  have e2 : toP η (.lst []) = some (.list []) := rfl
  unfold dNe
  rw [e1, e2]
  dsimp only
  rw [if_pos (Nat.le_trans (Nat.min_le_right _ _) (by decide))]
  cases xs with
  | nil => cases hp; rfl
  | cons a l =>
    obtain ⟨p, qs, _, _, rfl⟩ := toPs_inv hp
    rfl
theorem ty_ref {η : Store} {i : Nat} {xs : List D} (h : η[i]? = some (.l xs)) : tyD η (.ref i) = some .lst := by
  simp only [tyD, h]
theorem app_ref {η : Store} {i : Nat} {xs : List D} {d : D} (h : η[i]? = some (.l xs)) (hl : xs.length < 1000000) : mApp η (.ref i) [d] = some (.non, η.set i (.l (xs ++ [d]))) := by
  simp only [mApp, h]
  rw [if_pos (by rw [sizeLine_eq]; omega)]
theorem pop_ref {η : Store} {i : Nat} {xs : List D} {d : D} (h : η[i]? = some (.l (xs ++ [d]))) : mPop η (.ref i) [] = some (d, η.set i (.l xs)) := by
  simp only [mPop, h, List.getLast?_concat, List.dropLast_concat, Option.map_some]
theorem exit_ref {η more : Store} {i : Nat} {xs : List D} (hη : Pu η) (hi : η.length ≤ i) (h : (η ++ more)[i]? = some (.l xs)) (hx : D.pures xs = true) : exitR η.length (.rt (.ref i) (η ++ more)) = .ok (.lst xs) η := by
  unfold exitR
  dsimp only
  rw [List.take_left, if_pos hη]
  have fz : frz η.length (η ++ more) 8 (.ref i) = some (.lst xs) := by
    unfold frz
    rw [show (D.ref i).pure = false from rfl]
    simp only [Bool.false_eq_true, if_false]
    rw [if_neg (by omega), h]
    dsimp only
    rw [frzs_pure hx]
    rfl
  rw [fz]
end Dn
namespace K71
open PySem PySem.Spec PyProof.Rows L2 Dn
section
variable {xs ys : List Int} {n m : Nat}
/-- the next places, as the law tells them -/
def inGB (n m : Nat) (q : Pl) : Bool := decide (q.1 < n) && decide (q.2 < m)
def nxL (n m : Nat) (p : Pl) : List Pl := [(p.1 + 1, p.2), (p.1, p.2 + 1), (p.1 + 1, p.2 + 1)].filter (inGB n m)
theorem nxL_perm (p : Pl) : (nxL n m p).Perm (nexts n m p) := by
  unfold nxL nexts
  refine List.Perm.filter _ ?_
  generalize (p.1 + 1, p.2) = a
  generalize (p.1, p.2 + 1) = b
  generalize (p.1 + 1, p.2 + 1) = c
  exact (List.perm_append_comm (l₁ := [a, b]) (l₂ := [c])).trans (.cons _ (.swap _ _ _))
/-- the walks that go on from a begun one -/
def exts (n m : Nat) (w : List Pl) : List (List Pl) := match w.getLast? with
  | some p => (walksP n m none p).map fun v => w.dropLast ++ v
  | none => []
theorem exts_app (w : List Pl) (p : Pl) : exts n m (w ++ [p]) = (walksP n m none p).map fun v => w ++ v := by
  unfold exts
  rw [List.getLast?_concat, List.dropLast_concat]
theorem walksP_eq {p : Pl} (h1 : p.1 < n) (h2 : p.2 < m) : walksP n m none p = if p = endP n m then [[p]] else (nexts n m p).flatMap fun q => (walksP n m none q).map (p :: ·) := by
  have := paths_eq (down n m none (fun _ => none_w)) (dm_none h1 h2) (rk_lt h1 h2)
  rw [nexts_nxA] at this
  exact this
theorem exts_end {w : List Pl} {p : Pl} (h1 : p.1 < n) (h2 : p.2 < m) (he : p = endP n m) : exts n m (w ++ [p]) = [w ++ [p]] := by
  rw [exts_app, walksP_eq h1 h2, if_pos he]
  rfl
theorem exts_go {w : List Pl} {p : Pl} (h1 : p.1 < n) (h2 : p.2 < m) (he : p ≠ endP n m) : (exts n m (w ++ [p])).Perm (((nxL n m p).map fun q => (w ++ [p]) ++ [q]).flatMap (exts n m)) := by
  rw [exts_app, walksP_eq h1 h2, if_neg he, List.map_flatMap, List.flatMap_map]
  have e : ∀ q, (exts n m (w ++ [p] ++ [q])) = ((walksP n m none q).map (p :: ·)).map (fun v => w ++ v) := fun q => by
    rw [exts_app, List.map_map]
    refine List.map_congr_left fun v _ => ?_
    simp
  simp only [e]
  exact List.Perm.flatMap_right _ (nxL_perm p).symm
/-- a begun walk's weight -/
def wtW (n m : Nat) (w : List Pl) : Nat := match w.getLast? with
  | some p => 4 ^ rkP n m p
  | none => 0
theorem wtW_app (w : List Pl) (p : Pl) : wtW n m (w ++ [p]) = 4 ^ rkP n m p := by
  unfold wtW
  rw [List.getLast?_concat]
theorem nxL_mem {p q : Pl} (h : q ∈ nxL n m p) : q ∈ nexts n m p := (nxL_perm p).mem_iff.mp h
theorem nxL_wt {w : List Pl} {p : Pl} (h1 : p.1 < n) (h2 : p.2 < m) (he : p ≠ endP n m) : (((nxL n m p).map fun q => w ++ [q]).map (wtW n m)).sum < 4 ^ rkP n m p := by
  have hr : ∀ q ∈ nxL n m p, rkP n m q < rkP n m p := fun q hq => ((down n m none (fun _ => none_w)).dec p q (dm_none h1 h2) (by rw [nexts_nxA]; exact nxL_mem hq)).1
  obtain ⟨r, hr0⟩ : ∃ r, rkP n m p = r + 1 := by
    refine ⟨rkP n m p - 1, ?_⟩
    have : rkP n m p ≠ 0 := by
      intro z
      unfold rkP at z
      exact he (Prod.ext (show p.1 = n - 1 by omega) (show p.2 = m - 1 by omega))
    omega
  have hl : (nxL n m p).length ≤ 3 := List.length_filter_le _ _
  have key : ∀ l : List Pl, (∀ q ∈ l, rkP n m q < rkP n m p) → ((l.map fun q => w ++ [q]).map (wtW n m)).sum ≤ l.length * 4 ^ r := by
    intro l
    induction l with
    | nil => intro _; exact Nat.zero_le _
    | cons q l ih =>
      intro h
      have := ih fun x hx => h x (List.mem_cons_of_mem _ hx)
      rw [List.map_cons, List.map_cons, List.sum_cons, wtW_app, List.length_cons, Nat.succ_mul]
      have hq := h q List.mem_cons_self
      have : 4 ^ rkP n m q ≤ 4 ^ r := Nat.pow_le_pow_right (by decide) (by omega)
      omega
  have h3 := key _ hr
  have h4 : (nxL n m p).length * 4 ^ r ≤ 3 * 4 ^ r := Nat.mul_le_mul_right _ hl
  have h5 : 0 < 4 ^ r := Nat.pow_pos (by decide)
  rw [hr0, Nat.pow_succ]
  omega
theorem len_wt : ∀ {S : List (List Pl)}, (∀ w ∈ S, w ≠ []) → S.length ≤ (S.map (wtW n m)).sum
  | [], _ => Nat.le_refl _
  | w :: S, h => by
    have ih := len_wt (S := S) fun v hv => h v (List.mem_cons_of_mem _ hv)
    have hw := h w List.mem_cons_self
    have e : w = w.dropLast ++ [w.getLast hw] := (List.dropLast_concat_getLast hw).symm
    rw [List.map_cons, List.sum_cons, List.length_cons, e, wtW_app]
    have : 0 < 4 ^ rkP n m (w.getLast hw) := Nat.pow_pos (by decide)
    omega
theorem walks_toPs : ∀ S : List (List Pl), ∃ ps, toPs (S.map walkD) = some ps
  | [] => ⟨[], rfl⟩
  | w :: S => by
    obtain ⟨ps, h⟩ := walks_toPs S
    exact ⟨_, toPs_cons (walk_data w) h⟩
theorem walks_pure : ∀ S : List (List Pl), D.pures (S.map walkD) = true
  | [] => rfl
  | w :: S => by
    rw [List.map_cons]
    unfold D.pures
    rw [walk_pure, walks_pure S]
    rfl
/-- the inner loop: what goes on from a begun walk -/
theorem lw_l0 {L : Nat} {r3 r5 r6 : Option D} {w : List Pl} (hw : w.length ≤ 1000) : ∀ (qs : List Pl) (S : List (List Pl)) (η : Store) (r7 : Option D), η[L]? = some (.l (S.map walkD)) → S.length + qs.length < 1000000 →
    ∃ r7', forL (gN 7) _law_walks_b0 (qs.map plD) [some (serD xs), some (serD ys), some (.ref L), r3, some (walkD w), r5, r6, r7] η = .nx [some (serD xs), some (serD ys), some (.ref L), r3, some (walkD w), r5, r6, r7'] (η.set L (.l ((S ++ (qs.filter (inGB xs.length ys.length)).map fun q => w ++ [q]).map walkD)))
  | [], S, η, r7, h, _ => ⟨r7, by
    simp only [List.filter_nil, List.map_nil, List.append_nil, set_same h]
    rfl⟩
  | q :: qs, S, η, r7, h, hl => by
    rw [List.length_cons] at hl
    rw [List.map_cons]
    have hL := (List.getElem?_eq_some_iff.mp h).1
    cases hq : inGB xs.length ys.length q with
    | false =>
      obtain ⟨r7', e⟩ := lw_l0 hw qs S η (some (plD q)) h (by omega)
      refine ⟨r7', ?_⟩
      rw [List.filter_cons_of_neg (by rw [hq]; decide), ← e]
      have eb : _law_walks_b0 [some (serD xs), some (serD ys), some (.ref L), r3, some (walkD w), r5, r6, some (plD q)] η = .nx [some (serD xs), some (serD ys), some (.ref L), r3, some (walkD w), r5, r6, some (plD q)] η := by
        unfold inGB at hq
        by_cases a : q.1 < xs.length
        · have b : ¬ q.2 < ys.length := fun b => by simp [a, b] at hq
          simp -implicitDefEqProofs [_law_walks_b0, pl_eq, a, b]
        · simp -implicitDefEqProofs [_law_walks_b0, pl_eq, a]
      simp -implicitDefEqProofs only [forL, e_gN, List.set_cons_succ, List.set_cons_zero, R.thn_ok, eb, onS_nx]
    | true =>
      obtain ⟨r7', e⟩ := lw_l0 hw qs (S ++ [w ++ [q]]) (η.set L (.l ((S ++ [w ++ [q]]).map walkD))) (some (plD q)) (List.getElem?_set_self hL) (by rw [List.length_append, List.length_singleton]; omega)
      refine ⟨r7', ?_⟩
      rw [List.filter_cons_of_pos hq, List.map_cons]
      rw [List.set_set, List.append_assoc] at e
      refine Eq.trans ?_ e
      have eb : _law_walks_b0 [some (serD xs), some (serD ys), some (.ref L), r3, some (walkD w), r5, r6, some (plD q)] η = .nx [some (serD xs), some (serD ys), some (.ref L), r3, some (walkD w), r5, r6, some (plD q)] (η.set L (.l ((S ++ [w ++ [q]]).map walkD))) := by
        unfold inGB at hq
        obtain ⟨a, b⟩ := Bool.and_eq_true_iff.mp hq
        have a := of_decide_eq_true a
        have b := of_decide_eq_true b
        have ap := app_ref (η := η) (i := L) (xs := S.map walkD) (d := walkD (w ++ [q])) h (by rw [List.length_map]; omega)
        have at_ : dAdd η (walkD w) (.tup [plD q]) = some (walkD (w ++ [q])) := by
          have := add_tup (η := η) (a := w.map plD) (b := [plD q]) (by rw [List.length_map, List.length_singleton]; omega)
          unfold walkD
          rw [this, List.map_append]
          rfl
        rw [List.map_append, List.map_singleton]
        have ix0' : dIx η (plD q) (.int 0) = some (.int q.1) := ixt0
        have ix1' : dIx η (plD q) (.int 1) = some (.int q.2) := ixt1
        have ty := ty_ref h
        generalize walkD (w ++ [q]) = wq at *
        generalize walkD w = wd at *
        generalize plD q = qd at *
        simp -implicitDefEqProofs [_law_walks_b0, a, b, ty, at_, ap, ix0', ix1']
      simp -implicitDefEqProofs only [forL, e_gN, List.set_cons_succ, List.set_cons_zero, R.thn_ok, eb, onS_nx]
/-- but for two objects -/
structure Off2 (L F : Nat) (η η' : Store) : Prop where
  len : η'.length = η.length
  off : ∀ j, j ≠ L → j ≠ F → η'[j]? = η[j]?
theorem Off2.setL {L F : Nat} {η : Store} {m : M} : Off2 L F η (η.set L m) := ⟨List.length_set, fun j h _ => List.getElem?_set_ne (Ne.symm h)⟩
theorem Off2.setF {L F : Nat} {η : Store} {m : M} : Off2 L F η (η.set F m) := ⟨List.length_set, fun j _ h => List.getElem?_set_ne (Ne.symm h)⟩
theorem Off2.trans {L F : Nat} {η η1 η2 : Store} (a : Off2 L F η η1) (b : Off2 L F η1 η2) : Off2 L F η η2 := ⟨b.len.trans a.len, fun j h k => (b.off j h k).trans (a.off j h k)⟩
theorem lw_it {p : Pl} {η : Store} {r2 r3 r4 r7 : Option D} : (fIt (fTup (fCons (fTup (fCons (f2 dAdd (fVar 5) (fC (.int 1))) (fCons (fVar 6) fNil))) (fCons (fTup (fCons (fVar 5) (fCons (f2 dAdd (fVar 6) (fC (.int 1))) fNil))) (fCons (fTup (fCons (f2 dAdd (fVar 5) (fC (.int 1))) (fCons (f2 dAdd (fVar 6) (fC (.int 1))) fNil))) fNil))))) [some (serD xs), some (serD ys), r2, r3, r4, some (.int p.1), some (.int p.2), r7] η = .ok (itF ([(p.1 + 1, p.2), (p.1, p.2 + 1), (p.1 + 1, p.2 + 1)].map plD)) η := by
  simp -implicitDefEqProofs [pl_eq]
theorem lw_end {L F : Nat} {η : Store} {p : Pl} {v : List Pl} {W : List (List Pl)} {r7 : Option D} (hx : 1 ≤ xs.length) (hy : 1 ≤ ys.length) (hF : η[F]? = some (.l (W.map walkD))) (hW : W.length < 1000000) :
    (sIf (fTest (f2 dEq (fTup (fCons (fVar 5) (fCons (fVar 6) fNil))) (fTup (fCons (f2 dSub (fCl dLen (fCons (fVar 0) fNil)) (fC (.int 1))) (fCons (f2 dSub (fCl dLen (fCons (fVar 1) fNil)) (fC (.int 1))) fNil))))) (sExp (fMt .lst mApp (fVar 3) (fCons (fVar 4) fNil))) sNil) [some (serD xs), some (serD ys), some (.ref L), some (.ref F), some (walkD (v ++ [p])), some (.int p.1), some (.int p.2), r7] η =
      .nx [some (serD xs), some (serD ys), some (.ref L), some (.ref F), some (walkD (v ++ [p])), some (.int p.1), some (.int p.2), r7] (if p = endP xs.length ys.length then η.set F (.l ((W ++ [v ++ [p]]).map walkD)) else η) := by
  have e2 : ((p.1 : Int) = (xs.length : Int) - 1 ∧ (p.2 : Int) = (ys.length : Int) - 1) ↔ p = endP xs.length ys.length := ⟨fun ⟨a, b⟩ => Prod.ext (show p.1 = xs.length - 1 by omega) (show p.2 = ys.length - 1 by omega), fun z => by subst z; unfold endP; dsimp only; omega⟩
  have ap := app_ref (η := η) (i := F) (xs := W.map walkD) (d := walkD (v ++ [p])) hF (by rw [List.length_map]; omega)
  have ty := ty_ref hF
  rw [List.map_append, List.map_singleton]
  generalize walkD (v ++ [p]) = wd at *
  by_cases h : p = endP xs.length ys.length
  · have h2 := e2.mpr h
    rw [if_pos h]
    simp -implicitDefEqProofs [h2.1, h2.2, ty, ap]
  · rw [if_neg h]
    have h2 : decide ((p.1 : Int) = (xs.length : Int) - 1 ∧ (p.2 : Int) = (ys.length : Int) - 1) = false := decide_eq_false fun z => h (e2.mp z)
    simp -implicitDefEqProofs [-Bool.decide_and, h2]
/-- the search, from any state of it -/
theorem lw_l1 {L F : Nat} (hx : 1 ≤ xs.length) (hy : 1 ≤ ys.length) (hLF : L ≠ F) : ∀ (N : Nat) (S W : List (List Pl)) (η : Store) (r4 r5 r6 r7 : Option D), (S.map (wtW xs.length ys.length)).sum ≤ N → W.length + (S.map (wtW xs.length ys.length)).sum ≤ 100000 →
    (∀ w ∈ S, ∃ v p, w = v ++ [p] ∧ p.1 < xs.length ∧ p.2 < ys.length ∧ w.length + rkP xs.length ys.length p ≤ 900) → η[L]? = some (.l (S.map walkD)) → η[F]? = some (.l (W.map walkD)) →
    ∃ (ρ' : Ev) (η' : Store) (W' : List (List Pl)), _law_walks_l1 [some (serD xs), some (serD ys), some (.ref L), some (.ref F), r4, r5, r6, r7] η = .nx ρ' η' ∧ Off2 L F η η' ∧ η'[F]? = some (.l (W'.map walkD)) ∧ ρ'[3]? = some (some (.ref F)) ∧ W'.Perm (W ++ S.flatMap (exts xs.length ys.length)) ∧ W'.length ≤ 100000
  | N, S, W, η, r4, r5, r6, r7, hN, hW, hS, hL, hF => by
    have hLl := (List.getElem?_eq_some_iff.mp hL).1
    have hFl := (List.getElem?_eq_some_iff.mp hF).1
    obtain ⟨ps, hps⟩ := walks_toPs S
    have nn := ne_nil_ref hL hps
    by_cases hnil : S = []
    · subst hnil
      refine ⟨[some (serD xs), some (serD ys), some (.ref L), some (.ref F), r4, r5, r6, r7], η, W, sWh_stop (c := _law_walks_w0) (b := _law_walks_b1) (η1 := η) ?_, ⟨rfl, fun _ _ _ => rfl⟩, hF, rfl, ?_, by omega⟩
      · simp -implicitDefEqProofs [_law_walks_w0, nn]
      · rw [List.flatMap_nil, List.append_nil]
    · have hS0 : S = S.dropLast ++ [S.getLast hnil] := (List.dropLast_concat_getLast hnil).symm
      generalize S.dropLast = S0 at hS0
      generalize S.getLast hnil = w at hS0
      subst hS0
      obtain ⟨v, p, rfl, p1, p2, hlen⟩ := hS w (by simp)
      have hsum : ((S0 ++ [v ++ [p]]).map (wtW xs.length ys.length)).sum = (S0.map (wtW xs.length ys.length)).sum + 4 ^ rkP xs.length ys.length p := by
        rw [List.map_append, List.sum_append, List.map_singleton, List.sum_singleton, wtW_app]
      rw [hsum] at hN hW
      have hS0ne : ∀ w ∈ S0, w ≠ [] := fun w hw => by
        obtain ⟨v, p, rfl, _⟩ := hS w (List.mem_append_left _ hw)
        simp
      have hS0len := len_wt (n := xs.length) (m := ys.length) hS0ne
      have hpos : 0 < 4 ^ rkP xs.length ys.length p := Nat.pow_pos (by decide)
      rw [List.map_append, List.map_singleton] at hL
      have pop := pop_ref hL
      have ty := ty_ref hL
      -- behind the pop, behind the look at the end
      have hF1 : (η.set L (.l (S0.map walkD)))[F]? = some (.l (W.map walkD)) := by rw [List.getElem?_set_ne hLF, hF]
      have en := lw_end (L := L) (F := F) (η := η.set L (.l (S0.map walkD))) (p := p) (v := v) (W := W) (r7 := r7) hx hy hF1 (by omega)
      obtain ⟨W1, hW1⟩ : ∃ W1, W1 = if p = endP xs.length ys.length then W ++ [v ++ [p]] else W := ⟨_, rfl⟩
      obtain ⟨η2, hη2⟩ : ∃ η2, η2 = if p = endP xs.length ys.length then (η.set L (.l (S0.map walkD))).set F (.l ((W ++ [v ++ [p]]).map walkD)) else η.set L (.l (S0.map walkD)) := ⟨_, rfl⟩
      rw [← hη2] at en
      have o2 : Off2 L F η η2 := by
        rw [hη2]
        split
        · exact Off2.setL.trans Off2.setF
        · exact Off2.setL
      have hF2 : η2[F]? = some (.l (W1.map walkD)) := by
        rw [hη2, hW1]
        split
        · exact List.getElem?_set_self (by rw [List.length_set]; exact hFl)
        · exact hF1
      have hL2 : η2[L]? = some (.l (S0.map walkD)) := by
        rw [hη2]
        split
        · rw [List.getElem?_set_ne (Ne.symm hLF)]
          exact List.getElem?_set_self hLl
        · exact List.getElem?_set_self hLl
      obtain ⟨r7', el⟩ := lw_l0 (xs := xs) (ys := ys) (L := L) (r3 := some (.ref F)) (r5 := some (.int p.1)) (r6 := some (.int p.2)) (w := v ++ [p]) (by omega) [(p.1 + 1, p.2), (p.1, p.2 + 1), (p.1 + 1, p.2 + 1)] S0 η2 r7 hL2 (by simp only [List.length_cons, List.length_nil]; omega)
      have hnx : ([(p.1 + 1, p.2), (p.1, p.2 + 1), (p.1 + 1, p.2 + 1)] : List Pl).filter (inGB xs.length ys.length) = nxL xs.length ys.length p := rfl
      rw [hnx] at el
      -- what is left
      have hnew : (((nxL xs.length ys.length p).map fun q => (v ++ [p]) ++ [q]).map (wtW xs.length ys.length)).sum + (W1.length - W.length) ≤ 4 ^ rkP xs.length ys.length p ∧ (((nxL xs.length ys.length p).map fun q => (v ++ [p]) ++ [q]).map (wtW xs.length ys.length)).sum < 4 ^ rkP xs.length ys.length p ∧ W.length ≤ W1.length := by
        by_cases he : p = endP xs.length ys.length
        · rw [hW1, if_pos he]
          have : nxL xs.length ys.length p = [] := List.eq_nil_iff_forall_not_mem.mpr fun q hq => by
            have := nxL_mem hq
            rw [(end_iff p1 p2).mp he] at this
            cases this
          rw [this]
          simp only [List.map_nil, List.sum_nil, List.length_append, List.length_singleton]
          omega
        · have := nxL_wt (w := v ++ [p]) p1 p2 he
          rw [hW1, if_neg he]
          omega
      match N, hN with
      | 0, hN => omega
      | N + 1, hN =>
      obtain ⟨ρ', η', W', e, o3, h1, h2, h3, h3l⟩ := lw_l1 hx hy hLF N (S0 ++ (nxL xs.length ys.length p).map fun q => (v ++ [p]) ++ [q]) W1 (η2.set L (.l ((S0 ++ (nxL xs.length ys.length p).map fun q => (v ++ [p]) ++ [q]).map walkD))) (some (walkD (v ++ [p]))) (some (.int p.1)) (some (.int p.2)) r7'
        (by rw [List.map_append, List.sum_append]; omega) (by rw [List.map_append, List.sum_append]; omega)
        (fun w hw => by
          rcases List.mem_append.mp hw with hw | hw
          · exact hS w (List.mem_append_left _ hw)
          · obtain ⟨q, hq, rfl⟩ := List.mem_map.mp hw
            have hq' := nxL_mem hq
            obtain ⟨_, q1, q2⟩ := mem_nexts.mp hq'
            have hr := ((down xs.length ys.length none (fun _ => none_w)).dec p q (dm_none p1 p2) (by rw [nexts_nxA]; exact hq')).1
            refine ⟨v ++ [p], q, rfl, q1, q2, ?_⟩
            rw [List.length_append, List.length_singleton]
            omega)
        (List.getElem?_set_self (by rw [o2.len]; exact hLl)) (by rw [List.getElem?_set_ne hLF]; exact hF2)
      refine ⟨ρ', η', W', ?_, o2.trans (Off2.setL.trans o3), h1, h2, h3.trans ?_, h3l⟩
      · have e1 : _law_walks_w0 [some (serD xs), some (serD ys), some (.ref L), some (.ref F), r4, r5, r6, r7] η = .ok true η := by
          have : dNe η (.ref L) (.lst []) = some (.bl true) := by rw [nn]; simp
          simp -implicitDefEqProofs [_law_walks_w0, this]
        have e2 : _law_walks_b1 [some (serD xs), some (serD ys), some (.ref L), some (.ref F), r4, r5, r6, r7] η = .nx [some (serD xs), some (serD ys), some (.ref L), some (.ref F), some (walkD (v ++ [p])), some (.int p.1), some (.int p.2), r7'] (η2.set L (.l ((S0 ++ (nxL xs.length ys.length p).map fun q => (v ++ [p]) ++ [q]).map walkD))) := by
          unfold _law_walks_b1
          have hl0 : _law_walks_l0 [some (serD xs), some (serD ys), some (.ref L), some (.ref F), some (walkD (v ++ [p])), some (.int p.1), some (.int p.2), r7] η2 = _ := (sFor_eq lw_it).trans el
          have ix : dIx (η.set L (.l (S0.map walkD))) (walkD (v ++ [p])) (.int (-1)) = some (plD p) := by
            show atI ((v ++ [p]).map plD) (-1) = _
            rw [atI_last (xs := (v ++ [p]).map plD) (by simp)]
            simp
          rw [seq_nx (ρ' := [some (serD xs), some (serD ys), some (.ref L), some (.ref F), some (walkD (v ++ [p])), r5, r6, r7]) (η' := η.set L (.l (S0.map walkD))) (by
            generalize walkD (v ++ [p]) = wd at *
            simp -implicitDefEqProofs [ty, pop])]
          rw [seq_nx (ρ' := [some (serD xs), some (serD ys), some (.ref L), some (.ref F), some (walkD (v ++ [p])), some (.int p.1), some (.int p.2), r7]) (η' := η.set L (.l (S0.map walkD))) (by
            generalize walkD (v ++ [p]) = wd at *
            simp -implicitDefEqProofs [ix, pl_eq])]
          rw [seq_nx en]
          exact hl0
        exact (sWh_go e1 e2).trans e
      · rw [hW1]
        by_cases he : p = endP xs.length ys.length
        · have : nxL xs.length ys.length p = [] := List.eq_nil_iff_forall_not_mem.mpr fun q hq => by
            have := nxL_mem hq
            rw [(end_iff p1 p2).mp he] at this
            cases this
          rw [if_pos he, this, List.map_nil, List.append_nil, List.flatMap_append, List.append_assoc]
          refine List.Perm.append_left W ?_
          rw [show [v ++ [p]].flatMap (exts xs.length ys.length) = [v ++ [p]] by rw [List.flatMap_cons, List.flatMap_nil, List.append_nil, exts_end p1 p2 he]]
          exact List.perm_append_comm
        · rw [if_neg he, List.flatMap_append, List.flatMap_append]
          refine List.Perm.append_left W (List.Perm.append_left _ ?_)
          rw [show [v ++ [p]].flatMap (exts xs.length ys.length) = exts xs.length ys.length (v ++ [p]) by rw [List.flatMap_cons, List.flatMap_nil, List.append_nil]]
          exact (exts_go p1 p2 he).symm
theorem law_walks_ok {η : Store} (hη : Pu η) (hx : Ser xs) (hy : Ser ys) (hx4 : xs.length ≤ 4) (hy4 : ys.length ≤ 4) : ∃ W : List (List Pl), W.Perm (walksP xs.length ys.length none (0, 0)) ∧ W.length ≤ 100000 ∧ φ__law_walks [serD xs, serD ys] η = .ok (.lst (W.map walkD)) η := by
  have h0 := hx.lo
  have h1 := hy.lo
  have hw : wtW xs.length ys.length [(0, 0)] = 4 ^ rkP xs.length ys.length (0, 0) := wtW_app [] (0, 0)
  have hr : rkP xs.length ys.length (0, 0) ≤ 6 := by unfold rkP; dsimp only; omega
  have h4 : 4 ^ rkP xs.length ys.length (0, 0) ≤ 4 ^ 6 := Nat.pow_le_pow_right (by decide) hr
  obtain ⟨ρ', η', W', e, o, hF, h3, hp, hpl⟩ := lw_l1 (xs := xs) (ys := ys) (L := η.length) (F := η.length + 1) hx.lo hy.lo (by omega) (4 ^ 6) [[(0, 0)]] [] (η ++ [.l [walkD [(0, 0)]], .l []]) none none none none (by rw [List.map_singleton, List.sum_singleton, hw]; exact h4) (by rw [List.map_singleton, List.sum_singleton, hw, List.length_nil]; omega)
    (fun w hw => by rw [List.mem_singleton] at hw; subst hw; exact ⟨[], (0, 0), rfl, h0, h1, by simp only [List.length_singleton]; omega⟩) (by simp) (by simp)
  refine ⟨W', ?_, hpl, ?_⟩
  · rw [List.nil_append] at hp
    refine hp.trans ?_
    rw [List.flatMap_cons, List.flatMap_nil, List.append_nil]
    have := exts_app (n := xs.length) (m := ys.length) [] (0, 0)
    rw [List.nil_append] at this
    rw [this]
    simp
  · show exitR η.length (fs__law_walks _ η) = _
    have ht : η'.take η.length = η := by
      refine List.ext_getElem? fun j => ?_
      by_cases hj : j < η.length
      · rw [List.getElem?_take_of_lt hj, o.off j (by omega) (by omega), List.getElem?_append_left hj]
      · rw [List.getElem?_eq_none (by rw [List.length_take]; omega), List.getElem?_eq_none (by omega)]
    have hη' : η' = η ++ η'.drop η.length := by
      conv => lhs; rw [← List.take_append_drop η.length η', ht]
    have e' : fs__law_walks (startD 8 [serD xs, serD ys]) η = .rt (.ref (η.length + 1)) η' := by
      have e0 : _law_walks_l1 [some (serD xs), some (serD ys), some (.ref η.length), some (.ref (η.length + 1)), none, none, none, none] (η ++ [.l [.tup [.tup [.int 0, .int 0]]], .l []]) = .nx ρ' η' := e
      simp -implicitDefEqProofs [fs__law_walks, startD, e_sSeq, e0, h3]
    rw [show fs__law_walks (startD _ [serD xs, serD ys]) η = _ from e', hη']
    rw [hη'] at hF
    exact exit_ref hη (by omega) hF (walks_pure _)
end
end K71
set_option Elab.async false
set_option linter.all false
set_option maxRecDepth 100000
set_option maxHeartbeats 2000000
namespace Dn
open PySem PySem.Spec PyProof.Rows L2
theorem minI_perm {a b : List Int} (h : a.Perm b) : minI a = minI b := by
  by_cases z : a = []
  · subst z
    rw [List.nil_perm.mp h]
  · have z' : b ≠ [] := fun e => by subst e; exact z (List.perm_nil.mp h)
    obtain ⟨x, hx⟩ := minI_some z
    obtain ⟨y, hy⟩ := minI_some z'
    have h1 := (minI_spec hx).2 y (h.mem_iff.mpr (minI_spec hy).1)
    have h2 := (minI_spec hy).2 x (h.mem_iff.mp (minI_spec hx).1)
    rw [hx, hy, show x = y by omega]
theorem maxI_some {l : List Int} (h : l ≠ []) : ∃ m, maxI l = some m := by
  cases l with
  | nil => exact absurd rfl h
  | cons a l => exact ⟨_, rfl⟩
theorem maxI_spec {l : List Int} {m : Int} (h : maxI l = some m) : m ∈ l ∧ ∀ y ∈ l, y ≤ m := by
  cases l with
  | nil => cases h
  | cons a l =>
    cases h
    obtain ⟨h1, h2, h3⟩ := foldl_max l a
    refine ⟨?_, fun y hy => ?_⟩
    · rcases h1 with q | q
      · rw [q]; exact List.mem_cons_self
      · exact List.mem_cons_of_mem _ q
    · rcases List.mem_cons.mp hy with rfl | hy
      · exact h2
      · exact h3 y hy
theorem ints_toPs : ∀ l : List Int, toPs (l.map .int) = some (l.map .int)
  | [] => rfl
  | a :: l => by rw [List.map_cons, toPs, ints_toPs l]; rfl
theorem eq_nil' {η : Store} {l : List Int} : dEq η (.lst (l.map .int)) (.lst []) = some (.bl (decide (l = []))) := by
  have e1 : toP η (.lst (l.map .int)) = some (.list (l.map .int)) := by
    show (toPs (l.map .int)).map PyData.list = _
    rw [ints_toPs]
    rfl
  have e2 : toP η (.lst []) = some (.list []) := rfl
  unfold dEq
  rw [e1, e2]
  dsimp only
  rw [if_pos (Nat.le_trans (Nat.min_le_right _ _) (by decide))]
  cases l <;> rfl
end Dn
namespace K71
open PySem PySem.Spec PyProof.Rows L2 Dn
section
variable {xs ys : List Int} {η : Store}
theorem law_is_int_ok {v : D} {lo hi : Int} (hη : Pu η) (hv : v.told = true) : φ__law_is_int [v, .int lo, .int hi] η = .ok (.bl (isIntD v lo hi)) η := by
  show exitR η.length (fs__law_is_int _ η) = _
  have e : fs__law_is_int (startD 3 [v, .int lo, .int hi]) η = .rt (.bl (isIntD v lo hi)) η := by
    cases v with
    | int i => by_cases h : lo ≤ i <;> simp -implicitDefEqProofs [fs__law_is_int, startD, isTy, isIntD, h]
    | _ => first
      | (cases hv; done)
      | (simp -implicitDefEqProofs [fs__law_is_int, startD, isTy, isIntD]; done)
  exact (congrArg _ e).trans (exit_rt0 hη rfl)
theorem law_walk_cost_ok {w : List Pl} (hη : Pu η) (hw : ∀ p ∈ w, InG xs ys p) (hl : w.length ≤ 1000) : φ__law_walk_cost [serD xs, serD ys, walkD w] η = .ok (.int (costC xs ys w)) η := by
  show exitR η.length (fs__law_walk_cost _ η) = _
  have lc : _law_walk_cost_c0 [some (serD xs), some (serD ys), some (walkD w), none, none] η = .ok (.lst ((w.map (cellC xs ys)).map .int)) η := by
    rw [List.map_map]
    refine fLc_all plD _ w rfl (by rw [sizeLine_eq]; omega) fun p hp => ⟨_, rfl, ?_⟩
    obtain ⟨h1, h2⟩ := hw p hp
    simp -implicitDefEqProofs [_law_walk_cost_e0, ser_ix h1, ser_ix h2, cellC, absI]
  have e : fs__law_walk_cost (startD 5 [serD xs, serD ys, walkD w]) η = .rt (.int (costC xs ys w)) η := by
    have e0 : startD 5 [serD xs, serD ys, walkD w] = [some (serD xs), some (serD ys), some (walkD w), none, none] := rfl
    rw [e0]
    unfold fs__law_walk_cost costC
    generalize w.map (cellC xs ys) = r at *
    simp -implicitDefEqProofs [lc]
  exact (congrArg _ e).trans (exit_rt0 hη rfl)
theorem is_bool_ok {a b : Bool} (hη : Pu η) : φ__law_is_bool [.bl a, .bl b] η = .ok (.bl (decide (a = b))) η := by
  show exitR η.length (fs__law_is_bool (startD 2 [.bl a, .bl b]) η) = _
  have e : fs__law_is_bool (startD 2 [.bl a, .bl b]) η = .rt (.bl (decide (a = b))) η := by
    simp -implicitDefEqProofs [fs__law_is_bool, startD, isTy]
  exact (congrArg _ e).trans (exit_rt0 hη rfl)
theorem law_is_series_ok {v : D} (hη : Pu η) (hv : v.deep = true) : φ__law_is_series [v] η = .ok (.bl (isSerD v)) η := by
  show exitR η.length (fs__law_is_series _ η) = _
  have e : fs__law_is_series (startD 2 [v]) η = .rt (.bl (isSerD v)) η := by
    cases v with
    | tup zs =>
      have hx := deeps_mem (show D.deeps zs = true from hv)
      by_cases h : 1 ≤ zs.length ∧ zs.length ≤ 40
      · have lc : _law_is_series_c0 [some (.tup zs), none] η = .ok (.lst (zs.map fun x => .bl (isIntD x (-1000000) 1000000))) η :=
          fLc_all id (fun x => .bl (isIntD x (-1000000) 1000000)) zs (by rw [List.map_id]; rfl) (Nat.le_trans h.2 (by decide)) fun x hxx => ⟨_, rfl, by
            simp -implicitDefEqProofs [_law_is_series_e0, pow_6, law_is_int_ok hη (deep_told (hx x hxx))]⟩
        have h1 : (1 : Int) ≤ (zs.length : Int) := by omega
        have h2 : (zs.length : Int) ≤ 40 := by omega
        have ab := all_bls (η := η) (l := zs) (f := fun x => isIntD x (-1000000) 1000000)
        simp -implicitDefEqProofs [fs__law_is_series, startD, e_sSeq, isTy, h1, h2, lc, ab, isSerD, h.1, h.2]
      · have hs : isSerD (.tup zs) = false := by
          unfold isSerD
          dsimp only
          by_cases h1 : 1 ≤ zs.length
          · have h2 : ¬ zs.length ≤ 40 := fun z => h ⟨h1, z⟩
            simp [h2]
          · simp [h1]
        rw [hs]
        by_cases h1 : 1 ≤ zs.length
        · have h3 : (1 : Int) ≤ (zs.length : Int) := by omega
          have h4 : ¬ (zs.length : Int) ≤ 40 := by omega
          simp -implicitDefEqProofs [fs__law_is_series, startD, e_sSeq, isTy, h3, h4]
        · have h3 : ¬ (1 : Int) ≤ (zs.length : Int) := by omega
          simp -implicitDefEqProofs [fs__law_is_series, startD, e_sSeq, isTy, h3]
    | _ => first
      | (cases hv; done)
      | (simp -implicitDefEqProofs [fs__law_is_series, startD, e_sSeq, isTy, isSerD]; done)
  exact (congrArg _ e).trans (exit_rt0 hη rfl)
theorem is_series_deep {v : D} (hη : Pu η) (hv : v.deep = true) : φ_is_series [v] η = .ok (.bl (isSerD v)) η :=
  is_series_ok hη (deep_told hv) fun zs e z hz => by subst e; exact deep_told (deeps_mem (show D.deeps zs = true from hv) z hz)
/-! ### how far from the band -/
def far1 (n m : Nat) (p : Pl) : Int := max (max 0 (min 0 ((n : Int) - m) - ((p.1 : Int) - p.2))) ((p.1 : Int) - p.2 - max 0 ((n : Int) - m))
def farI (n m : Nat) (w : List Pl) : Int := (maxI (w.map (far1 n m))).getD 0
theorem law_far_ok {w : List Pl} (hη : Pu η) (hne : w ≠ []) (hl : w.length ≤ 1000) : φ__law_far [serD xs, serD ys, walkD w] η = .ok (.int (farI xs.length ys.length w)) η := by
  show exitR η.length (fs__law_far _ η) = _
  have lc : _law_far_c0 [some (serD xs), some (serD ys), some (walkD w), some (.int (min 0 ((xs.length : Int) - ys.length))), some (.int (max 0 ((xs.length : Int) - ys.length))), none, none] η = .ok (.lst ((w.map (far1 xs.length ys.length)).map .int)) η := by
    rw [List.map_map]
    refine fLc_all plD _ w rfl (by rw [sizeLine_eq]; omega) fun p hp => ⟨_, rfl, ?_⟩
    simp -implicitDefEqProofs [_law_far_e0, far1]
  have e : fs__law_far (startD 7 [serD xs, serD ys, walkD w]) η = .rt (.int (farI xs.length ys.length w)) η := by
    have e0 : startD 7 [serD xs, serD ys, walkD w] = [some (serD xs), some (serD ys), some (walkD w), none, none, none, none] := rfl
    rw [e0]
    unfold fs__law_far farI
    have hr : w.map (far1 xs.length ys.length) ≠ [] := fun z => hne (List.map_eq_nil_iff.mp z)
    obtain ⟨k, hk⟩ := maxI_some hr
    generalize w.map (far1 xs.length ys.length) = r at *
    simp -implicitDefEqProofs [e_sSeq, lc, hk]
  exact (congrArg _ e).trans (exit_rt0 hη rfl)
theorem far1_le {n m : Nat} {p : Pl} {k : Int} (hk : 0 ≤ k) : far1 n m p ≤ k ↔ bandA n m (some k) p = true := by
  unfold far1 bandA
  simp only [Bool.and_eq_true, decide_eq_true_eq]
  omega
theorem farI_le {n m : Nat} {w : List Pl} {k : Int} (hk : 0 ≤ k) (hne : w ≠ []) : farI n m w ≤ k ↔ ∀ p ∈ w, bandA n m (some k) p = true := by
  unfold farI
  obtain ⟨x, hx⟩ := maxI_some (l := w.map (far1 n m)) fun z => hne (List.map_eq_nil_iff.mp z)
  obtain ⟨h1, h2⟩ := maxI_spec hx
  rw [hx]
  show x ≤ k ↔ _
  constructor
  · intro h p hp
    exact (far1_le hk).mp (Int.le_trans (h2 _ (List.mem_map.mpr ⟨p, hp, rfl⟩)) h)
  · intro h
    obtain ⟨p, hp, rfl⟩ := List.mem_map.mp h1
    exact (far1_le hk).mpr (h p hp)
/-! ### rows of labels -/
def rowD (r : List Int) : D := .tup (r.map .int)
def labR (R : List (List Int)) : D := .tup (R.map rowD)
def isRow (m : Nat) (d : D) : Bool := match d with
  | .tup l => decide (l.length = m) && l.all fun x => isIntD x 0 1000000000
  | _ => false
theorem ints_back {lo hi : Int} : ∀ {l : List D}, (∀ d ∈ l, isIntD d lo hi = true) → ∃ r : List Int, l = r.map .int ∧ ∀ x ∈ r, lo ≤ x ∧ x ≤ hi
  | [], _ => ⟨[], rfl, nofun⟩
  | d :: l, h => by
    have hd := h d List.mem_cons_self
    obtain ⟨r, rfl, hr⟩ := ints_back fun x hx => h x (List.mem_cons_of_mem _ hx)
    unfold isIntD at hd
    split at hd
    · rename_i i
      simp only [Bool.and_eq_true, decide_eq_true_eq] at hd
      exact ⟨i :: r, rfl, fun x hx => (List.mem_cons.mp hx).elim (fun z => by rw [z]; exact hd) (hr x)⟩
    · cases hd
theorem isRow_some {m : Nat} {d : D} (h : isRow m d = true) : ∃ r : List Int, d = rowD r ∧ r.length = m ∧ ∀ x ∈ r, 0 ≤ x ∧ x ≤ 1000000000 := by
  unfold isRow at h
  split at h
  · rename_i l
    obtain ⟨h1, h2⟩ := Bool.and_eq_true_iff.mp h
    obtain ⟨r, rfl, hr⟩ := ints_back (l := l) (fun d hd => List.all_eq_true.mp h2 d hd)
    exact ⟨r, rfl, by have := of_decide_eq_true h1; rwa [List.length_map] at this, hr⟩
  · cases h
theorem isRow_row {m : Nat} {r : List Int} (h : r.length = m) (hr : ∀ x ∈ r, 0 ≤ x ∧ x ≤ 1000000000) : isRow m (rowD r) = true := by
  unfold isRow rowD
  dsimp only
  rw [List.length_map, Bool.and_eq_true, List.all_map, List.all_eq_true]
  refine ⟨decide_eq_true h, fun x hx => ?_⟩
  obtain ⟨a, b⟩ := hr x hx
  simp [isIntD, a, b]
/-- rows as they are to be -/
structure OkR (n m : Nat) (R : List (List Int)) : Prop where
  n : R.length = n
  m : ∀ r ∈ R, r.length = m ∧ ∀ x ∈ r, 0 ≤ x ∧ x ≤ 1000000000
theorem isRows : ∀ {ds : List D} {m : Nat}, (∀ d ∈ ds, isRow m d = true) → ∃ R : List (List Int), ds = R.map rowD ∧ ∀ r ∈ R, r.length = m ∧ ∀ x ∈ r, 0 ≤ x ∧ x ≤ 1000000000
  | [], _, _ => ⟨[], rfl, nofun⟩
  | d :: ds, m, h => by
    obtain ⟨r, rfl, hr⟩ := isRow_some (h d List.mem_cons_self)
    obtain ⟨R, rfl, hR⟩ := isRows fun e he => h e (List.mem_cons_of_mem _ he)
    exact ⟨r :: R, rfl, fun q hq => (List.mem_cons.mp hq).elim (fun z => by rw [z]; exact hr) (hR q)⟩
/-- a label -/
def rowAt (R : List (List Int)) (i : Nat) : List Int := R.getD i []
def labO (R : List (List Int)) (p : Pl) : Int := (rowAt R p.1).getD p.2 0
theorem ix_row {R : List (List Int)} {i : Nat} (h : i < R.length) : dIx η (labR R) (.int i) = some (rowD (rowAt R i)) := by
  unfold rowAt
  show atI (R.map rowD) (i : Int) = _
  rw [Dn.atI_nat (by rw [List.length_map]; exact h), List.getElem_map]
  simp [List.getD, List.getElem?_eq_getElem h]
theorem ix_lab2 {r : List Int} {j : Nat} (h : j < r.length) : dIx η (rowD r) (.int j) = some (.int (r.getD j 0)) := by
  show atI (r.map D.int) (j : Int) = _
  rw [Dn.atI_nat (by rw [List.length_map]; exact h), List.getElem_map]
  simp [List.getD, List.getElem?_eq_getElem h]
theorem OkR.row {n m : Nat} {R : List (List Int)} (h : OkR n m R) {i : Nat} (hi : i < n) : (rowAt R i).length = m := by
  unfold rowAt
  have hi' : i < R.length := by rw [h.n]; exact hi
  have : R.getD i [] = R[i] := by simp [List.getD, List.getElem?_eq_getElem hi']
  rw [this]
  exact (h.m _ (List.getElem_mem hi')).1
/-- no label is more than a step and the least label behind -/
def fineP (xs ys : List Int) (R : List (List Int)) (p : Pl) : Bool := decide (labO R p ≤ cellC xs ys p + (minI ((nexts xs.length ys.length p).map (labO R))).getD 0)
def fineR (xs ys : List Int) (R : List (List Int)) : Bool := (List.range xs.length).all fun i => (List.range ys.length).all fun j => fineP xs ys R (i, j)
end
end K71
set_option Elab.async false
set_option linter.all false
set_option maxRecDepth 100000
set_option maxHeartbeats 2000000
namespace Dn
open PySem PySem.Spec PyProof.Rows L2
/-- for x in l: look, False at once -/
theorem forL_all {g : FG} {b : FS} {η : Store} {α : Type} (f : α → D) (I : Ev → Prop) (ok : α → Bool) : ∀ (l : List α) (ρ : Ev), I ρ → (∀ a ∈ l, ∀ ρ, I ρ → ∃ ρ1, g (f a) ρ η = .ok ρ1 η ∧ (if ok a then ∃ ρ2, b ρ1 η = .nx ρ2 η ∧ I ρ2 else b ρ1 η = .rt (.bl false) η)) →
    (if l.all ok then ∃ ρ', forL g b (l.map f) ρ η = .nx ρ' η ∧ I ρ' else forL g b (l.map f) ρ η = .rt (.bl false) η)
  | [], ρ, hi, _ => ⟨ρ, rfl, hi⟩
  | a :: l, ρ, hi, h => by
    obtain ⟨ρ1, h1, h2⟩ := h a List.mem_cons_self ρ hi
    rw [List.all_cons, List.map_cons]
    cases hb : ok a with
    | false =>
      rw [hb] at h2
      simp only [Bool.false_eq_true, if_false] at h2
      simp only [Bool.false_and, Bool.false_eq_true, if_false, forL, h1, R.thn_ok, h2, onS_rt]
    | true =>
      rw [hb] at h2
      simp only [if_true] at h2
      obtain ⟨ρ2, h3, h4⟩ := h2
      have ih := forL_all (g := g) (b := b) f I ok l ρ2 h4 fun c hc => h c (List.mem_cons_of_mem _ hc)
      simp only [Bool.true_and, forL, h1, R.thn_ok, h3, onS_nx]
      exact ih
end Dn
namespace K71
open PySem PySem.Spec PyProof.Rows L2 Dn
section
variable {xs ys : List Int} {η : Store}
theorem row_lab {R : List (List Int)} {p : Pl} (hR : OkR xs.length ys.length R) (h1 : p.1 < xs.length) (h2 : p.2 < ys.length) : dIx η (labR R) (.int p.1) = some (rowD (rowAt R p.1)) ∧ dIx η (rowD (rowAt R p.1)) (.int p.2) = some (.int (labO R p)) :=
  ⟨ix_row (by rw [hR.n]; exact h1), ix_lab2 (by rw [hR.row h1]; exact h2)⟩
theorem sh_c1 {R : List (List Int)} {p : Pl} {v : D} {r4 r5 r8 r9 : Option D} (hη : Pu η) (hR : OkR xs.length ys.length R) : shows_least_walk_c1 [some (serD xs), some (serD ys), some v, some (labR R), r4, r5, some (.int p.1), some (.int p.2), r8, r9] η = .ok (.lst (((nexts xs.length ys.length p).map (labO R)).map .int)) η := by
  have tn := told_next_ok (η := η) (xs := xs) (ys := ys) (p := p) hη
  rw [pl_eq] at tn
  rw [List.map_map]
  refine fLc_all plD (fun q => .int (labO R q)) (nexts xs.length ys.length p) (by simp -implicitDefEqProofs [tn]) (by
    refine Nat.le_trans (List.length_filter_le _ _) ?_
    show 3 ≤ sizeLine
    rw [sizeLine_eq]
    omega) fun q hq => ⟨_, rfl, ?_⟩
  obtain ⟨_, q1, q2⟩ := mem_nexts.mp hq
  obtain ⟨l1, l2⟩ := row_lab (η := η) (p := q) hR q1 q2
  simp -implicitDefEqProofs [shows_least_walk_e1, pl_eq, l1, l2]
theorem sh_b1 {R : List (List Int)} {p : Pl} {v : D} {r4 r5 r8 r9 : Option D} (hη : Pu η) (hR : OkR xs.length ys.length R) (h1 : p.1 < xs.length) (h2 : p.2 < ys.length) :
    if fineP xs ys R p then ∃ r8', shows_least_walk_b1 [some (serD xs), some (serD ys), some v, some (labR R), r4, r5, some (.int p.1), some (.int p.2), r8, r9] η = .nx [some (serD xs), some (serD ys), some v, some (labR R), r4, r5, some (.int p.1), some (.int p.2), r8', r9] η
    else shows_least_walk_b1 [some (serD xs), some (serD ys), some v, some (labR R), r4, r5, some (.int p.1), some (.int p.2), r8, r9] η = .rt (.bl false) η := by
  have c1 := sh_c1 (η := η) (xs := xs) (ys := ys) (R := R) (p := p) (v := v) (r4 := r4) (r5 := r5) (r8 := r8) (r9 := r9) hη hR
  obtain ⟨l1, l2⟩ := row_lab (η := η) (p := p) hR h1 h2
  have s1 := ser_ix (η := η) h1
  have s2 := ser_ix (η := η) h2
  have cc : (if xs.getD p.1 0 - ys.getD p.2 0 < 0 then -(xs.getD p.1 0 - ys.getD p.2 0) else xs.getD p.1 0 - ys.getD p.2 0) = cellC xs ys p := rfl
  unfold fineP
  generalize (nexts xs.length ys.length p).map (labO R) = r at *
  generalize xs.getD p.1 0 = x at *
  generalize ys.getD p.2 0 = y at *
  generalize labO R p = l at *
  generalize cellC xs ys p = c at *
  generalize rowAt R p.1 = rw_ at *
  by_cases hr : r = []
  · subst hr
    have nn := ne_nil' (η := η) (l := [])
    simp only [List.map_nil] at nn c1
    have m0 : (minI []).getD 0 = 0 := rfl
    rw [m0, Int.add_zero]
    by_cases h : l ≤ c
    · rw [if_pos (decide_eq_true h)]
      have : ¬ c < l := by omega
      exact ⟨some (.lst []), by simp -implicitDefEqProofs [shows_least_walk_b1, e_sSeq, c1, l1, l2, s1, s2, cc, nn, this]⟩
    · rw [if_neg (by simp [h])]
      have : c < l := by omega
      simp -implicitDefEqProofs [shows_least_walk_b1, e_sSeq, c1, l1, l2, s1, s2, cc, nn, this]
  · obtain ⟨k, hk⟩ := minI_some hr
    rw [hk]
    show if decide (l ≤ c + k) = true then _ else _
    by_cases h : l ≤ c + k
    · rw [if_pos (decide_eq_true h)]
      have : ¬ c + k < l := by omega
      exact ⟨some (.lst (r.map .int)), by simp -implicitDefEqProofs [shows_least_walk_b1, e_sSeq, c1, l1, l2, s1, s2, cc, hr, hk, this]⟩
    · rw [if_neg (by simp [h])]
      have : c + k < l := by omega
      simp -implicitDefEqProofs [shows_least_walk_b1, e_sSeq, c1, l1, l2, s1, s2, cc, hr, hk, this]
theorem sh_l1 {R : List (List Int)} {i : Nat} {v : D} {r4 r5 r7 r8 r9 : Option D} (hη : Pu η) (hR : OkR xs.length ys.length R) (h1 : i < xs.length) (hy : ys.length ≤ 40) :
    if ((List.range ys.length).all fun j => fineP xs ys R (i, j)) then ∃ r7' r8', shows_least_walk_l1 [some (serD xs), some (serD ys), some v, some (labR R), r4, r5, some (.int i), r7, r8, r9] η = .nx [some (serD xs), some (serD ys), some v, some (labR R), r4, r5, some (.int i), r7', r8', r9] η
    else shows_least_walk_l1 [some (serD xs), some (serD ys), some v, some (labR R), r4, r5, some (.int i), r7, r8, r9] η = .rt (.bl false) η := by
  have F := forL_all (g := gN 7) (b := shows_least_walk_b1) (η := η) (fun j : Nat => D.int j) (fun ρ => ∃ r7 r8, ρ = [some (serD xs), some (serD ys), some v, some (labR R), r4, r5, some (.int i), r7, r8, r9]) (fun j => fineP xs ys R (i, j)) (List.range ys.length) [some (serD xs), some (serD ys), some v, some (labR R), r4, r5, some (.int i), r7, r8, r9] ⟨_, _, rfl⟩ (fun j hj ρ ⟨r7, r8, hρ⟩ => by
    subst hρ
    refine ⟨_, rfl, ?_⟩
    have b := sh_b1 (xs := xs) (ys := ys) (η := η) (R := R) (p := (i, j)) (v := v) (r4 := r4) (r5 := r5) (r8 := r8) (r9 := r9) hη hR h1 (List.mem_range.mp hj)
    split at b
    · rename_i hf
      rw [if_pos hf]
      obtain ⟨r8', e⟩ := b
      exact ⟨_, e, _, _, rfl⟩
    · rename_i hf
      rw [if_neg hf]
      exact b)
  have e : shows_least_walk_l1 [some (serD xs), some (serD ys), some v, some (labR R), r4, r5, some (.int i), r7, r8, r9] η = forL (gN 7) shows_least_walk_b1 ((List.range ys.length).map fun j : Nat => D.int j) [some (serD xs), some (serD ys), some v, some (labR R), r4, r5, some (.int i), r7, r8, r9] η := sFor_eq (by
    simp -implicitDefEqProofs [it_up (n := ys.length) (by omega)])
  rw [e]
  split at F
  · rename_i hf
    rw [if_pos hf]
    obtain ⟨ρ', F, r7', r8', rfl⟩ := F
    exact ⟨_, _, F⟩
  · rename_i hf
    rw [if_neg hf]
    exact F
theorem sh_l2 {R : List (List Int)} {v : D} {r4 r5 r6 r7 r8 r9 : Option D} (hη : Pu η) (hR : OkR xs.length ys.length R) (hx : xs.length ≤ 40) (hy : ys.length ≤ 40) :
    if fineR xs ys R then ∃ ρ', shows_least_walk_l2 [some (serD xs), some (serD ys), some v, some (labR R), r4, r5, r6, r7, r8, r9] η = .nx ρ' η
    else shows_least_walk_l2 [some (serD xs), some (serD ys), some v, some (labR R), r4, r5, r6, r7, r8, r9] η = .rt (.bl false) η := by
  have F := forL_all (g := gN 6) (b := shows_least_walk_b2) (η := η) (fun j : Nat => D.int j) (fun ρ => ∃ r6 r7 r8, ρ = [some (serD xs), some (serD ys), some v, some (labR R), r4, r5, r6, r7, r8, r9]) (fun i => (List.range ys.length).all fun j => fineP xs ys R (i, j)) (List.range xs.length) [some (serD xs), some (serD ys), some v, some (labR R), r4, r5, r6, r7, r8, r9] ⟨_, _, _, rfl⟩ (fun i hi ρ ⟨r6, r7, r8, hρ⟩ => by
    subst hρ
    refine ⟨_, rfl, ?_⟩
    have b := sh_l1 (xs := xs) (ys := ys) (η := η) (R := R) (i := i) (v := v) (r4 := r4) (r5 := r5) (r7 := r7) (r8 := r8) (r9 := r9) hη hR (List.mem_range.mp hi) hy
    split at b
    · rename_i hf
      rw [if_pos hf]
      obtain ⟨r7', r8', e⟩ := b
      exact ⟨_, e, _, _, _, rfl⟩
    · rename_i hf
      rw [if_neg hf]
      exact b)
  have e : shows_least_walk_l2 [some (serD xs), some (serD ys), some v, some (labR R), r4, r5, r6, r7, r8, r9] η = forL (gN 6) shows_least_walk_b2 ((List.range xs.length).map fun j : Nat => D.int j) [some (serD xs), some (serD ys), some v, some (labR R), r4, r5, r6, r7, r8, r9] η := sFor_eq (by
    simp -implicitDefEqProofs [it_up (n := xs.length) (by omega)])
  rw [e]
  unfold fineR
  split at F
  · rename_i hf
    rw [if_pos hf]
    obtain ⟨ρ', F, _⟩ := F
    exact ⟨_, F⟩
  · rename_i hf
    rw [if_neg hf]
    exact F
/-- the rows, one by one -/
theorem sh_b0 {d v r3 : D} {r5 r6 r7 r8 r9 : Option D} (hη : Pu η) (hd : d.deep = true) (hy : ys.length ≤ 40) :
    if isRow ys.length d then ∃ r5', shows_least_walk_b0 [some (serD xs), some (serD ys), some v, some r3, some d, r5, r6, r7, r8, r9] η = .nx [some (serD xs), some (serD ys), some v, some r3, some d, r5', r6, r7, r8, r9] η
    else shows_least_walk_b0 [some (serD xs), some (serD ys), some v, some r3, some d, r5, r6, r7, r8, r9] η = .rt (.bl false) η := by
  cases d with
  | tup l =>
    have hl := deeps_mem (show D.deeps l = true from hd)
    by_cases h1 : l.length = ys.length
    · have c0 : shows_least_walk_c0 [some (serD xs), some (serD ys), some v, some r3, some (.tup l), r5, r6, r7, r8, r9] η = .ok (.lst (l.map fun x => .bl (isIntD x 0 1000000000))) η :=
        fLc_all id (fun x => .bl (isIntD x 0 1000000000)) l (by rw [List.map_id]; rfl) (by rw [sizeLine_eq]; omega) fun x hx => ⟨_, rfl, by
          simp -implicitDefEqProofs [shows_least_walk_e0, is_int_ok hη (deep_told (hl x hx))]⟩
      have ab := all_bls (η := η) (l := l) (f := fun x => isIntD x 0 1000000000)
      have hr : isRow ys.length (.tup l) = l.all fun x => isIntD x 0 1000000000 := by
        show (decide (l.length = ys.length) && _) = _
        rw [decide_eq_true h1, Bool.true_and]
      rw [hr]
      generalize (l.map fun x => D.bl (isIntD x 0 1000000000)) = bl at *
      cases ha : l.all fun x => isIntD x 0 1000000000 with
      | true =>
        rw [ha] at ab
        refine ⟨r5, ?_⟩
        simp -implicitDefEqProofs [shows_least_walk_b0, isTy, h1, c0, ab]
      | false =>
        rw [ha] at ab
        simp -implicitDefEqProofs [shows_least_walk_b0, isTy, h1, c0, ab]
    · have hr : isRow ys.length (.tup l) = false := by
        show (decide (l.length = ys.length) && _) = _
        rw [decide_eq_false h1, Bool.false_and]
      rw [hr]
      have h1' : ¬ (l.length : Int) = ys.length := by omega
      simp -implicitDefEqProofs [shows_least_walk_b0, isTy, h1']
  | _ => first
    | (cases hd; done)
    | (simp -implicitDefEqProofs [shows_least_walk_b0, isTy, isRow]; done)
theorem sh_l0 {ds : List D} {v : D} {r4 r5 r6 r7 r8 r9 : Option D} (hη : Pu η) (hd : ∀ d ∈ ds, d.deep = true) (hy : ys.length ≤ 40) :
    if ds.all (isRow ys.length) then ∃ r4' r5', shows_least_walk_l0 [some (serD xs), some (serD ys), some v, some (.tup ds), r4, r5, r6, r7, r8, r9] η = .nx [some (serD xs), some (serD ys), some v, some (.tup ds), r4', r5', r6, r7, r8, r9] η
    else shows_least_walk_l0 [some (serD xs), some (serD ys), some v, some (.tup ds), r4, r5, r6, r7, r8, r9] η = .rt (.bl false) η := by
  have F := forL_all (g := gN 4) (b := shows_least_walk_b0) (η := η) id (fun ρ => ∃ r4 r5, ρ = [some (serD xs), some (serD ys), some v, some (.tup ds), r4, r5, r6, r7, r8, r9]) (isRow ys.length) ds [some (serD xs), some (serD ys), some v, some (.tup ds), r4, r5, r6, r7, r8, r9] ⟨_, _, rfl⟩ (fun d hdm ρ ⟨r4, r5, hρ⟩ => by
    subst hρ
    refine ⟨_, rfl, ?_⟩
    have b := sh_b0 (xs := xs) (ys := ys) (η := η) (d := d) (v := v) (r3 := .tup ds) (r5 := r5) (r6 := r6) (r7 := r7) (r8 := r8) (r9 := r9) hη (hd d hdm) hy
    split at b
    · rename_i hf
      rw [if_pos hf]
      obtain ⟨r5', e⟩ := b
      exact ⟨_, e, _, _, rfl⟩
    · rename_i hf
      rw [if_neg hf]
      exact b)
  rw [List.map_id] at F
  have e : shows_least_walk_l0 [some (serD xs), some (serD ys), some v, some (.tup ds), r4, r5, r6, r7, r8, r9] η = forL (gN 4) shows_least_walk_b0 ds [some (serD xs), some (serD ys), some v, some (.tup ds), r4, r5, r6, r7, r8, r9] η := sFor_eq (by simp -implicitDefEqProofs)
  rw [e]
  split at F
  · rename_i hf
    rw [if_pos hf]
    obtain ⟨ρ', F, r4', r5', rfl⟩ := F
    exact ⟨_, _, F⟩
  · rename_i hf
    rw [if_neg hf]
    exact F
end
end K71
set_option Elab.async false
set_option linter.all false
set_option maxRecDepth 100000
set_option maxHeartbeats 2000000
namespace K71
open PySem PySem.Spec PyProof.Rows L2 Dn
section
variable {xs ys : List Int} {η : Store}
theorem in_4 {k : Int} : dIn η (.int k) (.tup [.int 4]) = some (.bl (decide (4 = k))) := by
  have e : toP η (.tup [.int 4]) = some (.tuple [.int 4]) := rfl
  unfold dIn
  rw [show dictAt η (.tup [.int 4]) (.int k) = none from rfl]
  dsimp only
  rw [e, show toP η (.int k) = some (.int k) from rfl]
  dsimp only
  rw [if_pos (by simp [PyData.depth])]
  by_cases h : 4 = k
  · subst h
    rfl
  · simp [PyData.eqv, h]
def isToldB (v : D) : Bool := match v with
  | .tup [.str _, _, _, _] => true
  | _ => false
theorem is_told_ok {v : D} (hη : Pu η) (hv : v.deep = true) : φ_is_told [v, .tup [.int 4]] η = .ok (.bl (isToldB v)) η := by
  show exitR η.length (fs_is_told (startD 2 [v, .tup [.int 4]]) η) = _
  have e : fs_is_told (startD 2 [v, .tup [.int 4]]) η = .rt (.bl (isToldB v)) η := by
    cases v with
    | tup l =>
      have hl := deeps_mem (show D.deeps l = true from hv)
      match l with
      | [] => simp -implicitDefEqProofs [fs_is_told, startD, isTy, isToldB, in_4]
      | [a] => simp -implicitDefEqProofs [fs_is_told, startD, isTy, isToldB, in_4]
      | [a, b] => simp -implicitDefEqProofs [fs_is_told, startD, isTy, isToldB, in_4]
      | [a, b, c] => simp -implicitDefEqProofs [fs_is_told, startD, isTy, isToldB, in_4]
      | a :: b :: c :: d :: x :: l =>
        have : ¬ (4 = (l.length : Int) + 1 + 1 + 1 + 1 + 1) := by omega
        simp -implicitDefEqProofs [fs_is_told, startD, isTy, isToldB, in_4, this]
      | [a, b, c, d] =>
        have ha := hl a (by simp)
        cases a with
        | str s => simp -implicitDefEqProofs [fs_is_told, startD, isTy, isToldB, in_4]
        | _ => first
          | (cases ha; done)
          | (simp -implicitDefEqProofs [fs_is_told, startD, isTy, isToldB, in_4]; done)
    | _ => first
      | (cases hv; done)
      | (simp -implicitDefEqProofs [fs_is_told, startD, isTy, isToldB]; done)
  exact (congrArg _ e).trans (exit_rt0 hη rfl)
/-- what is told of a least walk, at this cost -/
def Shown (xs ys : List Int) (c : Int) (v : D) : Prop := ∃ (w : List Pl) (R : List (List Int)), v = .tup [.str "walk", .int c, walkD w, labR R] ∧ Walk xs.length ys.length none w ∧ costC xs ys w = c ∧ OkR xs.length ys.length R ∧ labO R (0, 0) = c ∧ fineR xs ys R = true
open Classical in
noncomputable def showsB (xs ys : List Int) (v : D) : Bool := decide (∃ c : Int, 0 ≤ c ∧ c ≤ 1000000000 ∧ Shown xs ys c v)
open Classical in
theorem showsB_iff {v : D} : showsB xs ys v = true ↔ ∃ c : Int, 0 ≤ c ∧ c ≤ 1000000000 ∧ Shown xs ys c v := by
  unfold showsB
  exact decide_eq_true_iff
theorem showsB_no {v : D} (h : ¬ ∃ c : Int, 0 ≤ c ∧ c ≤ 1000000000 ∧ Shown xs ys c v) : showsB xs ys v = false := Bool.eq_false_iff.mpr fun z => h (showsB_iff.mp z)
theorem isIntD_int {v : D} {lo hi : Int} (h : isIntD v lo hi = true) : ∃ i : Int, v = .int i ∧ lo ≤ i ∧ i ≤ hi := by
  unfold isIntD at h
  split at h
  · rename_i i
    simp only [Bool.and_eq_true, decide_eq_true_eq] at h
    exact ⟨i, rfl, h⟩
  · cases h
theorem walk_inG {w : List Pl} (h : Walk xs.length ys.length none w) (hx : Ser xs) (hy : Ser ys) : ∀ p ∈ w, InG xs ys p := walk_in h hx.lo hy.lo
theorem shows_ok {v : D} (hη : Pu η) (hx : Ser xs) (hy : Ser ys) (hv : v.deep = true) : φ_shows_least_walk [serD xs, serD ys, v] η = .ok (.bl (showsB xs ys v)) η := by
  show exitR η.length (fs_shows_least_walk (startD 10 [serD xs, serD ys, v]) η) = _
  have lo1 := hx.lo
  have lo2 := hy.lo
  have hi1 := hx.hi
  have hi2 := hy.hi
  have e : fs_shows_least_walk (startD 10 [serD xs, serD ys, v]) η = .rt (.bl (showsB xs ys v)) η := by
    have e0 : startD 10 [serD xs, serD ys, v] = [some (serD xs), some (serD ys), some v, none, none, none, none, none, none, none] := rfl
    rw [e0]
    have s0 : shows_least_walk_s0 [some (serD xs), some (serD ys), some v, none, none, none, none, none, none, none] η = .nx [some (serD xs), some (serD ys), some v, none, none, none, none, none, none, none] η := by
      simp -implicitDefEqProofs [shows_least_walk_s0, look_ser hη hx hy]
    unfold fs_shows_least_walk
    rw [seq_nx s0]
    have it := is_told_ok hη hv
    cases hA : isToldB v with
    | false =>
      rw [hA] at it
      rw [showsB_no (by
        rintro ⟨c, _, _, w, R, rfl, _⟩
        cases hA)]
      refine seq_rt ?_
      simp -implicitDefEqProofs [shows_least_walk_s1, it]
    | true =>
    rw [hA] at it
    obtain ⟨s, a1, a2, a3, rfl⟩ : ∃ s a1 a2 a3, v = .tup [.str s, a1, a2, a3] := by
      unfold isToldB at hA
      split at hA
      · exact ⟨_, _, _, _, rfl⟩
      · cases hA
    have hl := deeps_mem (show D.deeps [.str s, a1, a2, a3] = true from hv)
    have d1 := hl a1 (by simp)
    have d2 := hl a2 (by simp)
    have d3 := hl a3 (by simp)
    have iw := is_walk_ok (xs := xs) (ys := ys) (v := a2) hη hx hy d2
    by_cases hs : s = "walk"
    case neg =>
      rw [showsB_no (by
        rintro ⟨c, _, _, w, R, h, _⟩
        simp only [D.tup.injEq, List.cons.injEq, D.str.injEq] at h
        exact hs h.1)]
      refine seq_rt ?_
      simp -implicitDefEqProofs [shows_least_walk_s1, it, hs]
    subst hs
    cases hB : isWalkB xs ys a2 with
    | false =>
      rw [hB] at iw
      rw [showsB_no (by
        rintro ⟨c, _, _, w, R, h, hw, _⟩
        simp only [D.tup.injEq, List.cons.injEq] at h
        rw [isWalkB_iff.mpr ⟨w, h.2.2.1, hw⟩] at hB
        cases hB)]
      refine seq_rt ?_
      simp -implicitDefEqProofs [shows_least_walk_s1, it, iw]
    | true =>
    rw [hB] at iw
    have s1 : shows_least_walk_s1 [some (serD xs), some (serD ys), some (.tup [.str "walk", a1, a2, a3]), none, none, none, none, none, none, none] η = .nx [some (serD xs), some (serD ys), some (.tup [.str "walk", a1, a2, a3]), none, none, none, none, none, none, none] η := by
      simp -implicitDefEqProofs [shows_least_walk_s1, it, iw]
    rw [seq_nx s1]
    obtain ⟨w, rfl, hw⟩ := isWalkB_iff.mp hB
    have hwl := walk_len hw lo1 lo2
    have tc := told_cost_ok (xs := xs) (ys := ys) (w := w) hη (walk_inG hw hx hy) (by omega)
    have ii := is_int_ok (v := a1) (lo := 0) (hi := 1000000000) hη (deep_told d1)
    cases hC : isIntD a1 0 1000000000 with
    | false =>
      rw [hC] at ii
      rw [showsB_no (by
        rintro ⟨c, c0, c1, w, R, h, hw, _⟩
        simp only [D.tup.injEq, List.cons.injEq] at h
        rw [h.2.1] at hC
        simp [isIntD, c0, c1] at hC)]
      refine seq_rt ?_
      simp -implicitDefEqProofs [shows_least_walk_s2, ii]
    | true =>
    rw [hC] at ii
    obtain ⟨c, rfl, c0, c1⟩ := isIntD_int hC
    by_cases hD : costC xs ys w = c
    case neg =>
      rw [showsB_no (by
        rintro ⟨c', _, _, w', R, h, hw', hc, _⟩
        simp only [D.tup.injEq, List.cons.injEq, D.int.injEq] at h
        obtain rfl := walkD_inj h.2.2.1
        exact hD (by rw [hc, h.2.1]))]
      refine seq_rt ?_
      simp -implicitDefEqProofs [shows_least_walk_s2, ii, tc, hD]
    have s2 : shows_least_walk_s2 [some (serD xs), some (serD ys), some (.tup [.str "walk", .int c, walkD w, a3]), none, none, none, none, none, none, none] η = .nx [some (serD xs), some (serD ys), some (.tup [.str "walk", .int c, walkD w, a3]), none, none, none, none, none, none, none] η := by
      simp -implicitDefEqProofs [shows_least_walk_s2, ii, tc, hD]
    rw [seq_nx s2]
    have s3 : shows_least_walk_s3 [some (serD xs), some (serD ys), some (.tup [.str "walk", .int c, walkD w, a3]), none, none, none, none, none, none, none] η = .nx [some (serD xs), some (serD ys), some (.tup [.str "walk", .int c, walkD w, a3]), some a3, none, none, none, none, none, none] η := by
      have ix : dIx η (.tup [.str "walk", .int c, walkD w, a3]) (.int (-1)) = some a3 := by
        show atI [.str "walk", .int c, walkD w, a3] (-1) = _
        rw [atI_last (by simp)]
        rfl
      simp -implicitDefEqProofs [shows_least_walk_s3, ix]
    rw [seq_nx s3]
    by_cases hE : ∃ ds, a3 = .tup ds ∧ ds.length = xs.length
    case neg =>
      rw [showsB_no (by
        rintro ⟨c', _, _, w', R, h, hw', hc, hR, _⟩
        simp only [D.tup.injEq, List.cons.injEq] at h
        exact hE ⟨R.map rowD, h.2.2.2.1, by rw [List.length_map]; exact hR.n⟩)]
      refine seq_rt ?_
      cases a3 with
      | tup ds =>
        have : ¬ (ds.length : Int) = xs.length := fun z => hE ⟨ds, rfl, by omega⟩
        simp -implicitDefEqProofs [shows_least_walk_s4, isTy, this]
      | _ => first
        | (cases d3; done)
        | (simp -implicitDefEqProofs [shows_least_walk_s4, isTy]; done)
    obtain ⟨ds, rfl, hds⟩ := hE
    have s4 : shows_least_walk_s4 [some (serD xs), some (serD ys), some (.tup [.str "walk", .int c, walkD w, .tup ds]), some (.tup ds), none, none, none, none, none, none] η = .nx [some (serD xs), some (serD ys), some (.tup [.str "walk", .int c, walkD w, .tup ds]), some (.tup ds), none, none, none, none, none, none] η := by
      simp -implicitDefEqProofs [shows_least_walk_s4, isTy, hds]
    rw [seq_nx s4]
    have l0 := sh_l0 (xs := xs) (ys := ys) (η := η) (ds := ds) (v := .tup [.str "walk", .int c, walkD w, .tup ds]) (r4 := none) (r5 := none) (r6 := none) (r7 := none) (r8 := none) (r9 := none) hη (deeps_mem (show D.deeps ds = true from d3)) hi2
    cases hF : ds.all (isRow ys.length) with
    | false =>
      rw [hF] at l0
      rw [showsB_no (by
        rintro ⟨c', _, _, w', R, h, hw', hc, hR, _⟩
        simp only [D.tup.injEq, List.cons.injEq, labR] at h
        have h := h.2.2.2.1
        subst h
        rw [List.all_eq_true.mpr fun d hd => by
          obtain ⟨r, hr, rfl⟩ := List.mem_map.mp hd
          obtain ⟨a, b⟩ := hR.m r hr
          exact isRow_row a b] at hF
        cases hF)]
      exact seq_rt l0
    | true =>
    rw [hF] at l0
    obtain ⟨r4', r5', l0⟩ := l0
    rw [seq_nx (show shows_least_walk_s5 _ η = _ from l0)]
    obtain ⟨R, rfl, hR⟩ := isRows fun d hd => List.all_eq_true.mp hF d hd
    have hR : OkR xs.length ys.length R := ⟨by rw [List.length_map] at hds; exact hds, hR⟩
    obtain ⟨q1, q2⟩ := row_lab (η := η) (p := (0, 0)) hR lo1 lo2
    have q1 : dIx η (.tup (R.map rowD)) (.int 0) = some (rowD (rowAt R 0)) := q1
    have q2 : dIx η (rowD (rowAt R 0)) (.int 0) = some (.int (labO R (0, 0))) := q2
    by_cases hG : labO R (0, 0) = c
    case neg =>
      rw [showsB_no (by
        rintro ⟨c', _, _, w', R', h, hw', hc, hR', h0, _⟩
        simp only [D.tup.injEq, List.cons.injEq, D.int.injEq, labR] at h
        have hRR : R = R' := by
          refine (List.map_inj_right fun a b z => ?_).mp h.2.2.2.1
          unfold rowD at z
          exact (List.map_inj_right fun a b z => D.int.inj z).mp (D.tup.inj z)
        subst hRR
        exact hG (by rw [h0, h.2.1]))]
      refine seq_rt ?_
      simp -implicitDefEqProofs [shows_least_walk_s6, q1, q2, hG]
    have s6 : shows_least_walk_s6 [some (serD xs), some (serD ys), some (.tup [.str "walk", .int c, walkD w, .tup (R.map rowD)]), some (.tup (R.map rowD)), r4', r5', none, none, none, none] η = .nx [some (serD xs), some (serD ys), some (.tup [.str "walk", .int c, walkD w, .tup (R.map rowD)]), some (.tup (R.map rowD)), r4', r5', none, none, none, none] η := by
      simp -implicitDefEqProofs [shows_least_walk_s6, q1, q2, hG]
    rw [seq_nx s6]
    have l2 := sh_l2 (xs := xs) (ys := ys) (η := η) (R := R) (v := .tup [.str "walk", .int c, walkD w, .tup (R.map rowD)]) (r4 := r4') (r5 := r5') (r6 := none) (r7 := none) (r8 := none) (r9 := none) hη hR hi1 hi2
    cases hH : fineR xs ys R with
    | false =>
      rw [hH] at l2
      rw [showsB_no (by
        rintro ⟨c', _, _, w', R', h, hw', hc, hR', h0, hf⟩
        simp only [D.tup.injEq, List.cons.injEq, D.int.injEq, labR] at h
        have hRR : R = R' := by
          refine (List.map_inj_right fun a b z => ?_).mp h.2.2.2.1
          unfold rowD at z
          exact (List.map_inj_right fun a b z => D.int.inj z).mp (D.tup.inj z)
        subst hRR
        rw [hf] at hH
        cases hH)]
      exact seq_rt l2
    | true =>
    rw [hH] at l2
    obtain ⟨ρ', l2⟩ := l2
    refine (seq_nx l2).trans ?_
    rw [show showsB xs ys (.tup [.str "walk", .int c, walkD w, .tup (R.map rowD)]) = true from showsB_iff.mpr ⟨c, c0, c1, w, R, rfl, hw, hD, hR, hG, hH⟩]
    rfl
  exact (congrArg _ e).trans (exit_rt0 hη rfl)
end
end K71
set_option Elab.async false
set_option linter.all false
set_option maxRecDepth 100000
set_option maxHeartbeats 2000000
namespace Dn
open PySem PySem.Spec PyProof.Rows L2
theorem strs_toPs : ∀ l : List Str, toPs (l.map .str) = some (l.map .str)
  | [] => rfl
  | a :: l => by rw [List.map_cons, toPs, strs_toPs l]; rfl
theorem any_strs (s : Str) : ∀ l : List Str, ((l.map PyData.str).any fun q => PyData.eqv q (.str s)) = decide (s ∈ l)
  | [] => rfl
  | a :: l => by
    rw [List.map_cons, List.any_cons, any_strs s l]
    by_cases h : s = a
    · subst h
      simp [PyData.eqv]
    · have h' : ¬ a = s := fun z => h z.symm
      simp [PyData.eqv, h, h']
theorem in_strs {η : Store} {s : Str} {l : List Str} : dIn η (.str s) (.lst (l.map .str)) = some (.bl (decide (s ∈ l))) := by
  have e : toP η (.lst (l.map .str)) = some (.list (l.map .str)) := by
    show (toPs (l.map .str)).map PyData.list = _
    rw [strs_toPs]
    rfl
  unfold dIn
  rw [show dictAt η (.lst (l.map .str)) (.str s) = none from rfl]
  dsimp only
  rw [e, show toP η (.str s) = some (.str s) from rfl]
  dsimp only
  rw [if_pos (by simp [PyData.depth]), any_strs]
theorem notin_strs {η : Store} {s : Str} {l : List Str} : dNotIn η (.str s) (.lst (l.map .str)) = some (.bl (!decide (s ∈ l))) := by
  have e : toP η (.lst (l.map .str)) = some (.list (l.map .str)) := by
    show (toPs (l.map .str)).map PyData.list = _
    rw [strs_toPs]
    rfl
  unfold dNotIn
  rw [show dictAt η (.lst (l.map .str)) (.str s) = none from rfl]
  dsimp only
  rw [e, show toP η (.str s) = some (.str s) from rfl]
  dsimp only
  rw [if_pos (by simp [PyData.depth]), any_strs]
theorem num_range {α : Type} (f : α → D) (d : α) (l : List α) : numD 0 (l.map f) = (List.range l.length).map fun (i : Nat) => D.tup [.int i, f (l.getD i d)] := by
  refine List.ext_getElem? fun k => ?_
  rw [numD_get, List.getElem?_map, List.getElem?_map]
  by_cases h : k < l.length
  · rw [List.getElem?_range h, List.getElem?_eq_getElem h]
    simp [List.getD, List.getElem?_eq_getElem h]
  · rw [List.getElem?_eq_none (by omega), List.getElem?_eq_none (by rw [List.length_range]; omega)]
    rfl
end Dn
namespace K71
open PySem PySem.Spec PyProof.Rows L2 Dn
section
variable {xs ys : List Int} {η : Store}
/-- the law's walks -/
structure Wks (xs ys : List Int) (W : List (List Pl)) : Prop where
  is : ∀ w, w ∈ W ↔ Walk xs.length ys.length none w
  len : W.length ≤ 1000000
theorem walk_small {w : List Pl} (h : Walk xs.length ys.length none w) (hx : Ser xs) (hy : Ser ys) : (∀ p ∈ w, p.1 < 1000 ∧ p.2 < 1000) ∧ w.length ≤ 400 := by
  have := walk_len h hx.lo hy.lo
  have := hx.hi
  have := hy.hi
  refine ⟨fun p hp => ?_, by omega⟩
  have := walk_in h hx.lo hy.lo p hp
  omega
theorem is_in_walks {W : List (List Pl)} {d : D} {s : Str} (hW : Wks xs ys W) (hs : ∀ w, s = walkS w ↔ d = walkD w) : decide (s ∈ W.map walkS) = isWalkB xs ys d := by
  rw [Bool.eq_iff_iff, decide_eq_true_iff, isWalkB_iff]
  constructor
  · intro h
    obtain ⟨w, hw, e⟩ := List.mem_map.mp h
    exact ⟨w, (hs w).mp e.symm, (hW.is w).mp hw⟩
  · rintro ⟨w, e, hw⟩
    exact List.mem_map.mpr ⟨w, (hW.is w).mpr hw, ((hs w).mpr e).symm⟩
theorem texts_ok {W : List (List Pl)} (hx : Ser xs) (hy : Ser ys) (hW : Wks xs ys W) : ∀ w ∈ W, dRepr η [walkD w] = some (.str (walkS w)) := fun w hw => by
  obtain ⟨a, b⟩ := walk_small ((hW.is w).mp hw) hx hy
  exact repr_walk a b
theorem du_c2 {R : List (List Int)} {p : Pl} {a b c d2 d3 : D} {r5 r6 r7 r10 r12 r13 r14 : Option D} (hη : Pu η) (hR : OkR xs.length ys.length R) : _law_is_due_c2 [some (serD xs), some (serD ys), some d2, some d3, some (.tup [a, b, c, labR R]), r5, r6, r7, some (.int p.1), some (.int p.2), r10, some (.lst ([(p.1 + 1, p.2), (p.1, p.2 + 1), (p.1 + 1, p.2 + 1)].map plD)), r12, r13, r14] η = .ok (.lst (((nxL xs.length ys.length p).map (labO R)).map .int)) η := by
  rw [List.map_map]
  refine fLc_list plD (inGB xs.length ys.length) (fun q => .int (labO R q)) [(p.1 + 1, p.2), (p.1, p.2 + 1), (p.1 + 1, p.2 + 1)] rfl (by show 3 ≤ sizeLine; rw [sizeLine_eq]; omega) fun q hq => ⟨[some (serD xs), some (serD ys), some d2, some d3, some (.tup [a, b, c, labR R]), r5, r6, r7, some (.int p.1), some (.int p.2), r10, some (.lst ([(p.1 + 1, p.2), (p.1, p.2 + 1), (p.1 + 1, p.2 + 1)].map plD)), r12, some (.int q.1), some (.int q.2)], by simp -implicitDefEqProofs [pl_eq], ?_, fun h => ?_⟩
  · unfold inGB
    by_cases h1 : q.1 < xs.length <;> simp -implicitDefEqProofs [_law_is_due_t0, h1]
  · unfold inGB at h
    obtain ⟨h1, h2⟩ := Bool.and_eq_true_iff.mp h
    obtain ⟨l1, l2⟩ := row_lab (η := η) (p := q) hR (of_decide_eq_true h1) (of_decide_eq_true h2)
    simp -implicitDefEqProofs [_law_is_due_e2, l1, l2]
theorem du_b1 {R : List (List Int)} {p : Pl} {a b c d2 d3 : D} {r5 r6 r7 r11 r12 r13 r14 : Option D} (hη : Pu η) (hR : OkR xs.length ys.length R) (h1 : p.1 < xs.length) (h2 : p.2 < ys.length) :
    if fineP xs ys R p then ∃ r11' r12', _law_is_due_b1 [some (serD xs), some (serD ys), some d2, some d3, some (.tup [a, b, c, labR R]), r5, r6, r7, some (.int p.1), some (.int p.2), some (.int (labO R p)), r11, r12, r13, r14] η = .nx [some (serD xs), some (serD ys), some d2, some d3, some (.tup [a, b, c, labR R]), r5, r6, r7, some (.int p.1), some (.int p.2), some (.int (labO R p)), r11', r12', r13, r14] η
    else _law_is_due_b1 [some (serD xs), some (serD ys), some d2, some d3, some (.tup [a, b, c, labR R]), r5, r6, r7, some (.int p.1), some (.int p.2), some (.int (labO R p)), r11, r12, r13, r14] η = .rt (.bl false) η := by
  have c2 := du_c2 (η := η) (xs := xs) (ys := ys) (R := R) (p := p) (a := a) (b := b) (c := c) (d2 := d2) (d3 := d3) (r5 := r5) (r6 := r6) (r7 := r7) (r10 := some (.int (labO R p))) (r12 := r12) (r13 := r13) (r14 := r14) hη hR
  have s1 := ser_ix (η := η) h1
  have s2 := ser_ix (η := η) h2
  have cc : (if xs.getD p.1 0 - ys.getD p.2 0 < 0 then -(xs.getD p.1 0 - ys.getD p.2 0) else xs.getD p.1 0 - ys.getD p.2 0) = cellC xs ys p := rfl
  have hmin : minI ((nexts xs.length ys.length p).map (labO R)) = minI ((nxL xs.length ys.length p).map (labO R)) := minI_perm ((nxL_perm p).symm.map _)
  have hsome : (sSet 11 (fLst (fCons (fTup (fCons (f2 dAdd (fVar 8) (fC (.int 1))) (fCons (fVar 9) fNil))) (fCons (fTup (fCons (fVar 8) (fCons (f2 dAdd (fVar 9) (fC (.int 1))) fNil))) (fCons (fTup (fCons (f2 dAdd (fVar 8) (fC (.int 1))) (fCons (f2 dAdd (fVar 9) (fC (.int 1))) fNil))) fNil))))) [some (serD xs), some (serD ys), some d2, some d3, some (.tup [a, b, c, labR R]), r5, r6, r7, some (.int p.1), some (.int p.2), some (.int (labO R p)), r11, r12, r13, r14] η = .nx [some (serD xs), some (serD ys), some d2, some d3, some (.tup [a, b, c, labR R]), r5, r6, r7, some (.int p.1), some (.int p.2), some (.int (labO R p)), some (.lst ([(p.1 + 1, p.2), (p.1, p.2 + 1), (p.1 + 1, p.2 + 1)].map plD)), r12, r13, r14] η := by
    simp -implicitDefEqProofs [pl_eq]
  have hl3 : ((nxL xs.length ys.length p).map (labO R)).length ≤ 1000000 := by
    rw [List.length_map]
    exact Nat.le_trans (List.length_filter_le _ _) (by simp)
  unfold fineP _law_is_due_b1
  rw [hmin, seq_nx hsome]
  generalize ([(p.1 + 1, p.2), (p.1, p.2 + 1), (p.1 + 1, p.2 + 1)].map plD) = sm at *
  generalize (nxL xs.length ys.length p).map (labO R) = r at *
  generalize xs.getD p.1 0 = x at *
  generalize ys.getD p.2 0 = y at *
  generalize labO R p = l at *
  generalize cellC xs ys p = c at *
  have en := eq_nil' (η := η) (l := r)
  by_cases hr : r = []
  · subst hr
    simp only [List.map_nil] at en c2
    have m0 : (minI []).getD 0 = 0 := rfl
    have ad := add_lst (η := η) (a := []) (b := [.int 0]) (by decide)
    have mn := min_ints (η := η) (l := [0])
    simp only [List.map_cons, List.map_nil] at mn
    have mn : dMin η [.lst [.int 0]] = some (.int 0) := mn
    rw [m0, Int.add_zero]
    by_cases h : l ≤ c
    · rw [if_pos (decide_eq_true h)]
      have : ¬ c < l := by omega
      exact ⟨some (.lst sm), some (.lst []), by simp -implicitDefEqProofs [e_sSeq, c2, s1, s2, cc, en, ad, mn, this]⟩
    · rw [if_neg (by simp [h])]
      have : c < l := by omega
      simp -implicitDefEqProofs [e_sSeq, c2, s1, s2, cc, en, ad, mn, this]
  · obtain ⟨k, hk⟩ := minI_some hr
    rw [hk]
    have ad := add_lst (η := η) (a := r.map .int) (b := []) (by rw [List.length_map, List.length_nil]; omega)
    rw [List.append_nil] at ad
    show if decide (l ≤ c + k) = true then _ else _
    by_cases h : l ≤ c + k
    · rw [if_pos (decide_eq_true h)]
      have : ¬ c + k < l := by omega
      exact ⟨some (.lst sm), some (.lst (r.map .int)), by simp -implicitDefEqProofs [e_sSeq, c2, s1, s2, cc, en, ad, hr, hk, this]⟩
    · rw [if_neg (by simp [h])]
      have : c + k < l := by omega
      simp -implicitDefEqProofs [e_sSeq, c2, s1, s2, cc, en, ad, hr, hk, this]
theorem du_l1 {R : List (List Int)} {i : Nat} {a b c d2 d3 : D} {r5 r7 r9 r10 r11 r12 r13 r14 : Option D} (hη : Pu η) (hR : OkR xs.length ys.length R) (h1 : i < xs.length) :
    if ((List.range ys.length).all fun j => fineP xs ys R (i, j)) then ∃ r9' r10' r11' r12', _law_is_due_l1 [some (serD xs), some (serD ys), some d2, some d3, some (.tup [a, b, c, labR R]), r5, some (rowD (rowAt R i)), r7, some (.int i), r9, r10, r11, r12, r13, r14] η = .nx [some (serD xs), some (serD ys), some d2, some d3, some (.tup [a, b, c, labR R]), r5, some (rowD (rowAt R i)), r7, some (.int i), r9', r10', r11', r12', r13, r14] η
    else _law_is_due_l1 [some (serD xs), some (serD ys), some d2, some d3, some (.tup [a, b, c, labR R]), r5, some (rowD (rowAt R i)), r7, some (.int i), r9, r10, r11, r12, r13, r14] η = .rt (.bl false) η := by
  have hm := hR.row h1
  have F := forL_all (g := (gT 2 (gsC (gN 9) (gsC (gN 10) gsN)))) (b := _law_is_due_b1) (η := η) (fun j : Nat => D.tup [.int j, .int ((rowAt R i).getD j 0)]) (fun ρ => ∃ r9 r10 r11 r12, ρ = [some (serD xs), some (serD ys), some d2, some d3, some (.tup [a, b, c, labR R]), r5, some (rowD (rowAt R i)), r7, some (.int i), r9, r10, r11, r12, r13, r14]) (fun j => fineP xs ys R (i, j)) (List.range ys.length) [some (serD xs), some (serD ys), some d2, some d3, some (.tup [a, b, c, labR R]), r5, some (rowD (rowAt R i)), r7, some (.int i), r9, r10, r11, r12, r13, r14] ⟨_, _, _, _, rfl⟩ (fun j hj ρ ⟨r9, r10, r11, r12, hρ⟩ => by
    subst hρ
    refine ⟨_, rfl, ?_⟩
    have b := du_b1 (xs := xs) (ys := ys) (η := η) (R := R) (p := (i, j)) (a := a) (b := b) (c := c) (d2 := d2) (d3 := d3) (r5 := r5) (r6 := some (rowD (rowAt R i))) (r7 := r7) (r11 := r11) (r12 := r12) (r13 := r13) (r14 := r14) hη hR h1 (List.mem_range.mp hj)
    split at b
    · rename_i hf
      rw [if_pos hf]
      obtain ⟨r11', r12', e⟩ := b
      exact ⟨_, e, _, _, _, _, rfl⟩
    · rename_i hf
      rw [if_neg hf]
      exact b)
  have e : _law_is_due_l1 [some (serD xs), some (serD ys), some d2, some d3, some (.tup [a, b, c, labR R]), r5, some (rowD (rowAt R i)), r7, some (.int i), r9, r10, r11, r12, r13, r14] η = forL (gT 2 (gsC (gN 9) (gsC (gN 10) gsN))) _law_is_due_b1 ((List.range ys.length).map fun j : Nat => D.tup [.int j, .int ((rowAt R i).getD j 0)]) [some (serD xs), some (serD ys), some d2, some d3, some (.tup [a, b, c, labR R]), r5, some (rowD (rowAt R i)), r7, some (.int i), r9, r10, r11, r12, r13, r14] η := sFor_eq (by
    have nr := num_range D.int 0 (rowAt R i)
    rw [hm] at nr
    rw [← nr]
    simp -implicitDefEqProofs [rowD])
  rw [e]
  split at F
  · rename_i hf
    rw [if_pos hf]
    obtain ⟨ρ', F, r9', r10', r11', r12', rfl⟩ := F
    exact ⟨_, _, _, _, F⟩
  · rename_i hf
    rw [if_neg hf]
    exact F
theorem du_l2 {R : List (List Int)} {a b c d2 d3 : D} {r5 r6 r7 r8 r9 r10 r11 r12 r13 r14 : Option D} (hη : Pu η) (hR : OkR xs.length ys.length R) :
    if fineR xs ys R then ∃ r6' r8' r9' r10' r11' r12', _law_is_due_l2 [some (serD xs), some (serD ys), some d2, some d3, some (.tup [a, b, c, labR R]), r5, r6, r7, r8, r9, r10, r11, r12, r13, r14] η = .nx [some (serD xs), some (serD ys), some d2, some d3, some (.tup [a, b, c, labR R]), r5, r6', r7, r8', r9', r10', r11', r12', r13, r14] η
    else _law_is_due_l2 [some (serD xs), some (serD ys), some d2, some d3, some (.tup [a, b, c, labR R]), r5, r6, r7, r8, r9, r10, r11, r12, r13, r14] η = .rt (.bl false) η := by
  have F := forL_all (g := (gT 2 (gsC (gN 8) (gsC (gN 6) gsN)))) (b := _law_is_due_b2) (η := η) (fun j : Nat => D.tup [.int j, rowD (rowAt R j)]) (fun ρ => ∃ r6 r8 r9 r10 r11 r12, ρ = [some (serD xs), some (serD ys), some d2, some d3, some (.tup [a, b, c, labR R]), r5, r6, r7, r8, r9, r10, r11, r12, r13, r14]) (fun i => (List.range ys.length).all fun j => fineP xs ys R (i, j)) (List.range xs.length) [some (serD xs), some (serD ys), some d2, some d3, some (.tup [a, b, c, labR R]), r5, r6, r7, r8, r9, r10, r11, r12, r13, r14] ⟨_, _, _, _, _, _, rfl⟩ (fun i hi ρ ⟨r6, r8, r9, r10, r11, r12, hρ⟩ => by
    subst hρ
    refine ⟨_, rfl, ?_⟩
    have b := du_l1 (xs := xs) (ys := ys) (η := η) (R := R) (i := i) (a := a) (b := b) (c := c) (d2 := d2) (d3 := d3) (r5 := r5) (r7 := r7) (r9 := r9) (r10 := r10) (r11 := r11) (r12 := r12) (r13 := r13) (r14 := r14) hη hR (List.mem_range.mp hi)
    split at b
    · rename_i hf
      rw [if_pos hf]
      obtain ⟨r9', r10', r11', r12', e⟩ := b
      exact ⟨_, e, _, _, _, _, _, _, rfl⟩
    · rename_i hf
      rw [if_neg hf]
      exact b)
  have e : _law_is_due_l2 [some (serD xs), some (serD ys), some d2, some d3, some (.tup [a, b, c, labR R]), r5, r6, r7, r8, r9, r10, r11, r12, r13, r14] η = forL (gT 2 (gsC (gN 8) (gsC (gN 6) gsN))) _law_is_due_b2 ((List.range xs.length).map fun j : Nat => D.tup [.int j, rowD (rowAt R j)]) [some (serD xs), some (serD ys), some d2, some d3, some (.tup [a, b, c, labR R]), r5, r6, r7, r8, r9, r10, r11, r12, r13, r14] η := sFor_eq (by
    have nr := num_range rowD [] R
    rw [hR.n] at nr
    unfold rowAt
    rw [← nr]
    simp -implicitDefEqProofs [labR])
  rw [e]
  unfold fineR
  split at F
  · rename_i hf
    rw [if_pos hf]
    obtain ⟨ρ', F, r6', r8', r9', r10', r11', r12', rfl⟩ := F
    exact ⟨_, _, _, _, _, _, F⟩
  · rename_i hf
    rw [if_neg hf]
    exact F
theorem du_b0 {d a b c e d2 d3 : D} {r5 r7 r8 r9 r10 r11 r12 r13 r14 : Option D} (hη : Pu η) (hd : d.deep = true) (hy : ys.length ≤ 40) :
    if isRow ys.length d then _law_is_due_b0 [some (serD xs), some (serD ys), some d2, some d3, some (.tup [a, b, c, e]), r5, some d, r7, r8, r9, r10, r11, r12, r13, r14] η = .nx [some (serD xs), some (serD ys), some d2, some d3, some (.tup [a, b, c, e]), r5, some d, r7, r8, r9, r10, r11, r12, r13, r14] η
    else _law_is_due_b0 [some (serD xs), some (serD ys), some d2, some d3, some (.tup [a, b, c, e]), r5, some d, r7, r8, r9, r10, r11, r12, r13, r14] η = .rt (.bl false) η := by
  cases d with
  | tup l =>
    have hl := deeps_mem (show D.deeps l = true from hd)
    by_cases h1 : l.length = ys.length
    · have c0 : _law_is_due_c1 [some (serD xs), some (serD ys), some d2, some d3, some (.tup [a, b, c, e]), r5, some (.tup l), r7, r8, r9, r10, r11, r12, r13, r14] η = .ok (.lst (l.map fun x => .bl (isIntD x 0 1000000000))) η :=
        fLc_all id (fun x => .bl (isIntD x 0 1000000000)) l (by rw [List.map_id]; rfl) (by rw [sizeLine_eq]; omega) fun x hx => ⟨_, rfl, by
          simp -implicitDefEqProofs [_law_is_due_e1, pow_9, law_is_int_ok hη (deep_told (hl x hx))]⟩
      have ab := all_bls (η := η) (l := l) (f := fun x => isIntD x 0 1000000000)
      have hr : isRow ys.length (.tup l) = l.all fun x => isIntD x 0 1000000000 := by
        show (decide (l.length = ys.length) && _) = _
        rw [decide_eq_true h1, Bool.true_and]
      rw [hr]
      generalize (l.map fun x => D.bl (isIntD x 0 1000000000)) = bl at *
      cases ha : l.all fun x => isIntD x 0 1000000000 with
      | true =>
        rw [ha] at ab
        simp -implicitDefEqProofs [_law_is_due_b0, e_sSeq, isTy, h1, c0, ab]
      | false =>
        rw [ha] at ab
        simp -implicitDefEqProofs [_law_is_due_b0, e_sSeq, isTy, h1, c0, ab]
    · have hr : isRow ys.length (.tup l) = false := by
        show (decide (l.length = ys.length) && _) = _
        rw [decide_eq_false h1, Bool.false_and]
      rw [hr]
      have h1' : ¬ (l.length : Int) = ys.length := by omega
      simp -implicitDefEqProofs [_law_is_due_b0, e_sSeq, isTy, h1']
  | _ => first
    | (cases hd; done)
    | (simp -implicitDefEqProofs [_law_is_due_b0, e_sSeq, isTy, isRow]; done)
theorem du_l0 {ds : List D} {a b c d2 d3 : D} {r5 r6 r7 r8 r9 r10 r11 r12 r13 r14 : Option D} (hη : Pu η) (hd : ∀ d ∈ ds, d.deep = true) (hy : ys.length ≤ 40) :
    if ds.all (isRow ys.length) then ∃ r6', _law_is_due_l0 [some (serD xs), some (serD ys), some d2, some d3, some (.tup [a, b, c, .tup ds]), r5, r6, r7, r8, r9, r10, r11, r12, r13, r14] η = .nx [some (serD xs), some (serD ys), some d2, some d3, some (.tup [a, b, c, .tup ds]), r5, r6', r7, r8, r9, r10, r11, r12, r13, r14] η
    else _law_is_due_l0 [some (serD xs), some (serD ys), some d2, some d3, some (.tup [a, b, c, .tup ds]), r5, r6, r7, r8, r9, r10, r11, r12, r13, r14] η = .rt (.bl false) η := by
  have F := forL_all (g := gN 6) (b := _law_is_due_b0) (η := η) id (fun ρ => ∃ r6, ρ = [some (serD xs), some (serD ys), some d2, some d3, some (.tup [a, b, c, .tup ds]), r5, r6, r7, r8, r9, r10, r11, r12, r13, r14]) (isRow ys.length) ds [some (serD xs), some (serD ys), some d2, some d3, some (.tup [a, b, c, .tup ds]), r5, r6, r7, r8, r9, r10, r11, r12, r13, r14] ⟨_, rfl⟩ (fun d hdm ρ ⟨r6, hρ⟩ => by
    subst hρ
    refine ⟨_, rfl, ?_⟩
    have b := du_b0 (xs := xs) (ys := ys) (η := η) (d := d) (a := a) (b := b) (c := c) (e := .tup ds) (d2 := d2) (d3 := d3) (r5 := r5) (r7 := r7) (r8 := r8) (r9 := r9) (r10 := r10) (r11 := r11) (r12 := r12) (r13 := r13) (r14 := r14) hη (hd d hdm) hy
    split at b
    · rename_i hf
      rw [if_pos hf]
      exact ⟨_, b, _, rfl⟩
    · rename_i hf
      rw [if_neg hf]
      exact b)
  rw [List.map_id] at F
  have e : _law_is_due_l0 [some (serD xs), some (serD ys), some d2, some d3, some (.tup [a, b, c, .tup ds]), r5, r6, r7, r8, r9, r10, r11, r12, r13, r14] η = forL (gN 6) _law_is_due_b0 ds [some (serD xs), some (serD ys), some d2, some d3, some (.tup [a, b, c, .tup ds]), r5, r6, r7, r8, r9, r10, r11, r12, r13, r14] η := sFor_eq (by simp -implicitDefEqProofs)
  rw [e]
  split at F
  · rename_i hf
    rw [if_pos hf]
    obtain ⟨ρ', F, r6', rfl⟩ := F
    exact ⟨_, F⟩
  · rename_i hf
    rw [if_neg hf]
    exact F
end
end K71
set_option Elab.async false
set_option linter.all false
set_option maxRecDepth 100000
set_option maxHeartbeats 2000000
namespace K71
open PySem PySem.Spec PyProof.Rows L2 Dn
section
variable {xs ys : List Int} {η : Store}
open Classical in
noncomputable def dueB (xs ys : List Int) (least : Int) (v : D) : Bool := decide (Shown xs ys least v)
open Classical in
theorem dueB_iff {least : Int} {v : D} : dueB xs ys least v = true ↔ Shown xs ys least v := by
  unfold dueB
  exact decide_eq_true_iff
theorem dueB_no {least : Int} {v : D} (h : ¬ Shown xs ys least v) : dueB xs ys least v = false := Bool.eq_false_iff.mpr fun z => h (dueB_iff.mp z)
theorem rows_inj {R R' : List (List Int)} (h : R.map rowD = R'.map rowD) : R = R' :=
  (List.map_inj_right fun a b z => by
    unfold rowD at z
    exact (List.map_inj_right fun a b z => D.int.inj z).mp (D.tup.inj z)).mp h
theorem is_due_ok {v : D} {W : List (List Pl)} {least : Int} (hη : Pu η) (hx : Ser xs) (hy : Ser ys) (hW : Wks xs ys W) (hv : Top v) : φ__law_is_due [serD xs, serD ys, .lst (W.map walkD), .int least, v] η = .ok (.bl (dueB xs ys least v)) η := by
  show exitR η.length (fs__law_is_due (startD 15 [serD xs, serD ys, .lst (W.map walkD), .int least, v]) η) = _
  have lo1 := hx.lo
  have lo2 := hy.lo
  have hi1 := hx.hi
  have hi2 := hy.hi
  have e : fs__law_is_due (startD 15 [serD xs, serD ys, .lst (W.map walkD), .int least, v]) η = .rt (.bl (dueB xs ys least v)) η := by
    have e0 : startD 15 [serD xs, serD ys, .lst (W.map walkD), .int least, v] = [some (serD xs), some (serD ys), some (.lst (W.map walkD)), some (.int least), some v, none, none, none, none, none, none, none, none, none, none] := rfl
    rw [e0]
    unfold fs__law_is_due
    have hvd := hv.deep
    by_cases hA : ∃ a1 a2 a3, v = .tup [.str "walk", a1, a2, a3]
    case neg =>
      rw [dueB_no (by
        rintro ⟨w, R, rfl, _⟩
        exact hA ⟨_, _, _, rfl⟩)]
      refine seq_rt ?_
      cases v with
      | tup l =>
        have hl := deeps_mem (show D.deeps l = true from hvd)
        match l with
        | [] => simp -implicitDefEqProofs [_law_is_due_s0, isTy]
        | [a] => simp -implicitDefEqProofs [_law_is_due_s0, isTy]
        | [a, b] => simp -implicitDefEqProofs [_law_is_due_s0, isTy]
        | [a, b, c] => simp -implicitDefEqProofs [_law_is_due_s0, isTy]
        | a :: b :: c :: d :: x :: l =>
          have : ¬ ((l.length : Int) + 1 + 1 + 1 + 1 + 1 = 4) := by omega
          simp -implicitDefEqProofs [_law_is_due_s0, isTy, this]
        | [a, b, c, d] =>
          have ha := hl a (by simp)
          cases a with
          | str s =>
            have : ¬ s = "walk" := fun z => hA ⟨b, c, d, by rw [z]⟩
            simp -implicitDefEqProofs [_law_is_due_s0, isTy, this]
          | _ => first
            | (cases ha; done)
            | (simp -implicitDefEqProofs [_law_is_due_s0, isTy]; done)
      | _ => first
        | (cases hvd; done)
        | (simp -implicitDefEqProofs [_law_is_due_s0, isTy]; done)
    obtain ⟨a1, a2, a3, rfl⟩ := hA
    have hN : Nice 100000 30 (.tup [.str "walk", a1, a2, a3]) := by
      rcases hv with h | h | h
      · exact h
      · cases h
      · cases h
    have hNL := hN.of_tup
    have hl := deeps_mem (show D.deeps [.str "walk", a1, a2, a3] = true from hvd)
    have d1 := hl a1 (by simp)
    have d2 := hl a2 (by simp)
    have d3 := hl a3 (by simp)
    have n2 : Top a2 := .inl ⟨hNL.ok a2 (by simp), by
      have := wts_mem (xs := [.str "walk", a1, a2, a3]) (x := a2) (by simp)
      have := hNL.wt
      omega, Nat.le_trans (hNL.dp a2 (by simp)) (by decide)⟩
    have s0 : _law_is_due_s0 [some (serD xs), some (serD ys), some (.lst (W.map walkD)), some (.int least), some (.tup [.str "walk", a1, a2, a3]), none, none, none, none, none, none, none, none, none, none] η = .nx [some (serD xs), some (serD ys), some (.lst (W.map walkD)), some (.int least), some (.tup [.str "walk", a1, a2, a3]), none, none, none, none, none, none, none, none, none, none] η := by
      simp -implicitDefEqProofs [_law_is_due_s0, isTy]
    rw [seq_nx s0]
    have c0 : _law_is_due_c0 [some (serD xs), some (serD ys), some (.lst (W.map walkD)), some (.int least), some (.tup [.str "walk", a1, a2, a3]), none, none, none, none, none, none, none, none, none, none] η = .ok (.lst ((W.map walkS).map .str)) η := by
      rw [List.map_map]
      exact fLc_all walkD (fun w => .str (walkS w)) W (by simp -implicitDefEqProofs) (by have := hW.len; rw [sizeLine_eq]; omega) fun w hw => ⟨_, rfl, by
        simp -implicitDefEqProofs [_law_is_due_e0, texts_ok (η := η) hx hy hW w hw]⟩
    obtain ⟨s, hs1, hs2⟩ := repr_top (η := η) n2
    have nin := notin_strs (η := η) (s := s) (l := W.map walkS)
    rw [is_in_walks hW hs2] at nin
    have ii := law_is_int_ok (v := a1) (lo := least) (hi := least) hη (deep_told d1)
    have hC : isIntD a1 least least = true ↔ a1 = .int least := ⟨fun h => by
      obtain ⟨i, rfl, h1, h2⟩ := isIntD_int h
      rw [show i = least by omega], fun h => by rw [h]; simp [isIntD]⟩
    cases hC' : isIntD a1 least least with
    | false =>
      rw [hC'] at ii
      rw [dueB_no (by
        rintro ⟨w, R, h, _⟩
        simp only [D.tup.injEq, List.cons.injEq] at h
        rw [hC.mpr h.2.1] at hC'
        cases hC')]
      refine seq_rt ?_
      simp -implicitDefEqProofs [_law_is_due_s1, ii]
    | true =>
    rw [hC'] at ii
    have := hC.mp hC'
    subst this
    cases hB : isWalkB xs ys a2 with
    | false =>
      rw [hB] at nin
      rw [dueB_no (by
        rintro ⟨w, R, h, hw, _⟩
        simp only [D.tup.injEq, List.cons.injEq] at h
        rw [isWalkB_iff.mpr ⟨w, h.2.2.1, hw⟩] at hB
        cases hB)]
      refine seq_rt ?_
      generalize (W.map walkS).map D.str = ws at *
      simp -implicitDefEqProofs [_law_is_due_s1, ii, hs1, c0, nin]
    | true =>
    rw [hB] at nin
    have s1 : _law_is_due_s1 [some (serD xs), some (serD ys), some (.lst (W.map walkD)), some (.int least), some (.tup [.str "walk", .int least, a2, a3]), none, none, none, none, none, none, none, none, none, none] η = .nx [some (serD xs), some (serD ys), some (.lst (W.map walkD)), some (.int least), some (.tup [.str "walk", .int least, a2, a3]), none, none, none, none, none, none, none, none, none, none] η := by
      generalize (W.map walkS).map D.str = ws at *
      simp -implicitDefEqProofs [_law_is_due_s1, ii, hs1, c0, nin]
    rw [seq_nx s1]
    obtain ⟨w, rfl, hw⟩ := isWalkB_iff.mp hB
    have hwl := walk_len hw lo1 lo2
    have tc := law_walk_cost_ok (xs := xs) (ys := ys) (w := w) hη (walk_inG hw hx hy) (by omega)
    by_cases hD : costC xs ys w = least
    case neg =>
      rw [dueB_no (by
        rintro ⟨w', R, h, hw', hc, _⟩
        simp only [D.tup.injEq, List.cons.injEq] at h
        obtain rfl := walkD_inj h.2.2.1
        exact hD hc)]
      refine seq_rt ?_
      simp -implicitDefEqProofs [_law_is_due_s2, tc, hD]
    by_cases hE : ∃ ds, a3 = .tup ds ∧ ds.length = xs.length
    case neg =>
      rw [dueB_no (by
        rintro ⟨w', R, h, hw', hc, hR, _⟩
        simp only [D.tup.injEq, List.cons.injEq] at h
        exact hE ⟨R.map rowD, h.2.2.2.1, by rw [List.length_map]; exact hR.n⟩)]
      refine seq_rt ?_
      cases a3 with
      | tup ds =>
        have : ¬ (ds.length : Int) = xs.length := fun z => hE ⟨ds, rfl, by omega⟩
        simp -implicitDefEqProofs [_law_is_due_s2, tc, hD, isTy, this]
      | _ => first
        | (cases d3; done)
        | (simp -implicitDefEqProofs [_law_is_due_s2, tc, hD, isTy]; done)
    obtain ⟨ds, rfl, hds⟩ := hE
    have s2 : _law_is_due_s2 [some (serD xs), some (serD ys), some (.lst (W.map walkD)), some (.int least), some (.tup [.str "walk", .int least, walkD w, .tup ds]), none, none, none, none, none, none, none, none, none, none] η = .nx [some (serD xs), some (serD ys), some (.lst (W.map walkD)), some (.int least), some (.tup [.str "walk", .int least, walkD w, .tup ds]), none, none, none, none, none, none, none, none, none, none] η := by
      simp -implicitDefEqProofs [_law_is_due_s2, tc, hD, isTy, hds]
    rw [seq_nx s2]
    have l0 := du_l0 (xs := xs) (ys := ys) (η := η) (ds := ds) (a := .str "walk") (b := .int least) (c := walkD w) (d2 := .lst (W.map walkD)) (d3 := .int least) (r5 := none) (r6 := none) (r7 := none) (r8 := none) (r9 := none) (r10 := none) (r11 := none) (r12 := none) (r13 := none) (r14 := none) hη (deeps_mem (show D.deeps ds = true from d3)) hi2
    cases hF : ds.all (isRow ys.length) with
    | false =>
      rw [hF] at l0
      rw [dueB_no (by
        rintro ⟨w', R, h, hw', hc, hR, _⟩
        simp only [D.tup.injEq, List.cons.injEq, labR] at h
        have h := h.2.2.2.1
        subst h
        rw [List.all_eq_true.mpr fun d hd => by
          obtain ⟨r, hr, rfl⟩ := List.mem_map.mp hd
          obtain ⟨a, b⟩ := hR.m r hr
          exact isRow_row a b] at hF
        cases hF)]
      exact seq_rt l0
    | true =>
    rw [hF] at l0
    obtain ⟨r6', l0⟩ := l0
    refine (seq_nx l0).trans ?_
    obtain ⟨R, rfl, hR⟩ := isRows fun d hd => List.all_eq_true.mp hF d hd
    have hR : OkR xs.length ys.length R := ⟨by rw [List.length_map] at hds; exact hds, hR⟩
    have l2 := du_l2 (xs := xs) (ys := ys) (η := η) (R := R) (a := .str "walk") (b := .int least) (c := walkD w) (d2 := .lst (W.map walkD)) (d3 := .int least) (r5 := none) (r6 := r6') (r7 := none) (r8 := none) (r9 := none) (r10 := none) (r11 := none) (r12 := none) (r13 := none) (r14 := none) hη hR
    cases hH : fineR xs ys R with
    | false =>
      rw [hH] at l2
      rw [dueB_no (by
        rintro ⟨w', R', h, hw', hc, hR', h0, hf⟩
        simp only [D.tup.injEq, List.cons.injEq, labR] at h
        obtain rfl := rows_inj h.2.2.2.1
        rw [hf] at hH
        cases hH)]
      exact seq_rt l2
    | true =>
    rw [hH] at l2
    obtain ⟨r6'', r8', r9', r10', r11', r12', l2⟩ := l2
    refine (seq_nx l2).trans ?_
    obtain ⟨q1, q2⟩ := row_lab (η := η) (p := (0, 0)) hR lo1 lo2
    have q1 : dIx η (.tup (R.map rowD)) (.int 0) = some (rowD (rowAt R 0)) := q1
    have q2 : dIx η (rowD (rowAt R 0)) (.int 0) = some (.int (labO R (0, 0))) := q2
    have res : dueB xs ys least (.tup [.str "walk", .int least, walkD w, .tup (R.map rowD)]) = decide (labO R (0, 0) = least) := by
      rw [Bool.eq_iff_iff, dueB_iff, decide_eq_true_iff]
      constructor
      · rintro ⟨w', R', h, hw', hc, hR', h0, hf⟩
        simp only [D.tup.injEq, List.cons.injEq, labR] at h
        obtain rfl := rows_inj h.2.2.2.1
        exact h0
      · exact fun h0 => ⟨w, R, rfl, hw, hD, hR, h0, hH⟩
    rw [res]
    unfold labR
    simp -implicitDefEqProofs [_law_is_due_s5, q1, q2]
  exact (congrArg _ e).trans (exit_rt0 hη rfl)
end
end K71
set_option Elab.async false
set_option linter.all false
set_option maxRecDepth 100000
set_option maxHeartbeats 2000000
namespace K71
open PySem PySem.Spec PyProof.Rows L2 Dn
section
variable {xs ys : List Int} {η : Store} {wide : Option Int}
theorem path_in {n m : Nat} {wide : Option Int} : ∀ (r : List Pl) (p : Pl), DmP n m wide p → IsPath (nxA n m wide) (endP n m) (p :: r) → ∀ q ∈ p :: r, DmP n m wide q
  | [], p, hp, _, q, hq => by
    rw [List.mem_singleton] at hq
    subst hq
    exact hp
  | a :: r, p, hp, h, q, hq => by
    rcases List.mem_cons.mp hq with rfl | hq
    · exact hp
    · exact path_in r a (nxA_dm h.1) h.2 q hq
theorem path_len {n m : Nat} {wide : Option Int} (hw : ∀ w, wide = some w → 0 ≤ w) : ∀ (r : List Pl) (p : Pl), DmP n m wide p → IsPath (nxA n m wide) (endP n m) (p :: r) → r.length ≤ rkP n m p
  | [], p, _, _ => Nat.zero_le _
  | a :: r, p, hp, h => by
    have h3 := nxA_dm h.1
    have := path_len hw r a h3 h.2
    have := ((down n m wide hw).dec p a hp h.1).1
    rw [List.length_cons]
    omega
/-- a walk within a band is a walk, all of whose places are in the band -/
theorem walk_wide {n m : Nat} {wide : Option Int} (h0 : DmP n m wide (0, 0)) {w : List Pl} : Walk n m wide w ↔ Walk n m none w ∧ ∀ p ∈ w, bandA n m wide p = true := by
  have key : ∀ (r : List Pl) (p : Pl), DmP n m wide p → (IsPath (nxA n m wide) (endP n m) (p :: r) ↔ IsPath (nxA n m none) (endP n m) (p :: r) ∧ ∀ q ∈ p :: r, bandA n m wide q = true) := by
    intro r
    induction r with
    | nil =>
      intro p hp
      simp only [IsPath, List.mem_singleton, forall_eq]
      exact ⟨fun h => ⟨h, hp.2.2⟩, fun h => h.1⟩
    | cons a r ih =>
      intro p hp
      simp only [IsPath]
      constructor
      · rintro ⟨h1, h2⟩
        obtain ⟨h3, h4⟩ := (ih a (nxA_dm h1)).mp h2
        refine ⟨⟨?_, h3⟩, fun q hq => ?_⟩
        · rw [nexts_nxA]
          exact (List.mem_filter.mp h1).1
        · rcases List.mem_cons.mp hq with rfl | hq
          · exact hp.2.2
          · exact h4 q hq
      · rintro ⟨⟨h1, h2⟩, h3⟩
        rw [nexts_nxA] at h1
        have ha : a ∈ nxA n m wide p := List.mem_filter.mpr ⟨h1, h3 a (by simp)⟩
        exact ⟨ha, (ih a (nxA_dm ha)).mpr ⟨h2, fun q hq => h3 q (List.mem_cons_of_mem _ hq)⟩⟩
  constructor
  · rintro ⟨r, rfl, h⟩
    obtain ⟨h1, h2⟩ := (key r _ h0).mp h
    exact ⟨⟨r, rfl, h1⟩, h2⟩
  · rintro ⟨⟨r, rfl, h⟩, h2⟩
    exact ⟨r, rfl, (key r _ h0).mpr ⟨h, h2⟩⟩
theorem mem_walksP (hw : ∀ w, wide = some w → 0 ≤ w) (hx : Ser xs) (hy : Ser ys) {w : List Pl} : w ∈ walksP xs.length ys.length wide (0, 0) ↔ Walk xs.length ys.length wide w := by
  have h0 := dm0 hw hx hy
  constructor
  · intro h
    obtain ⟨r, rfl⟩ := paths_head _ _ _ h
    exact ⟨r, rfl, (paths_iff (down _ _ _ hw) _ _ r h0 (rk_lt h0.1 h0.2.1)).mp h⟩
  · rintro ⟨r, rfl, h⟩
    exact (paths_iff (down _ _ _ hw) _ _ r h0 (rk_lt h0.1 h0.2.1)).mpr h
theorem labP_walk (hw : ∀ w, wide = some w → 0 ≤ w) (hx : Ser xs) (hy : Ser ys) {w : List Pl} (h : Walk xs.length ys.length wide w) : labP xs ys wide (0, 0) ≤ costC xs ys w :=
  labP_le hw (dm0 hw hx hy) ((mem_walksP hw hx hy).mpr h)
theorem labP_has (hw : ∀ w, wide = some w → 0 ≤ w) (hx : Ser xs) (hy : Ser ys) : ∃ w, Walk xs.length ys.length wide w ∧ costC xs ys w = labP xs ys wide (0, 0) := by
  obtain ⟨w, h1, h2⟩ := labP_at hw (dm0 hw hx hy)
  exact ⟨w, (mem_walksP hw hx hy).mp h1, h2⟩
theorem ser_at {xs : List Int} (hx : Ser xs) (i : Nat) : -1000000 ≤ xs.getD i 0 ∧ xs.getD i 0 ≤ 1000000 := by
  by_cases h : i < xs.length
  · have : xs.getD i 0 = xs[i] := by simp [List.getD, List.getElem?_eq_getElem h]
    rw [this]
    exact hx.b _ (List.getElem_mem h)
  · have : xs.getD i 0 = 0 := by simp [List.getD, List.getElem?_eq_none (Nat.le_of_not_lt h)]
    rw [this]
    decide
theorem cell_b (hx : Ser xs) (hy : Ser ys) (p : Pl) : 0 ≤ cellC xs ys p ∧ cellC xs ys p ≤ 2000000 := by
  have := ser_at hx p.1
  have := ser_at hy p.2
  unfold cellC absI
  split <;> omega
theorem cost_b (hx : Ser xs) (hy : Ser ys) : ∀ w : List Pl, 0 ≤ costC xs ys w ∧ costC xs ys w ≤ w.length * 2000000
  | [] => by simp [costC]
  | p :: w => by
    have ih := cost_b hx hy w
    have := cell_b hx hy p
    have e : costC xs ys (p :: w) = cellC xs ys p + costC xs ys w := rfl
    rw [e, List.length_cons]
    omega
theorem lab_b (hx : Ser xs) (hy : Ser ys) {p : Pl} (h1 : p.1 < xs.length) (h2 : p.2 < ys.length) : 0 ≤ labP xs ys none p ∧ labP xs ys none p ≤ 1000000000 := by
  have hp := dm_none h1 h2
  obtain ⟨w, hw, e⟩ := labP_at (xs := xs) (ys := ys) (wide := none) (fun _ => none_w) hp
  obtain ⟨r, rfl⟩ := paths_head _ _ _ hw
  have hr := path_len (wide := none) (fun _ => none_w) r p hp ((paths_iff (down _ _ _ (fun _ => none_w)) _ _ r hp (rk_lt h1 h2)).mp hw)
  have := hx.hi
  have := hy.hi
  have := rk_lt (p := p) h1 h2
  have := cost_b hx hy (p :: r)
  rw [List.length_cons] at this
  rw [← e]
  omega
/-- labels bar less -/
theorem fine_le {R : List (List Int)} (hf : fineR xs ys R = true) : ∀ (r : List Pl) (p : Pl), p.1 < xs.length → p.2 < ys.length → IsPath (nxA xs.length ys.length none) (endP xs.length ys.length) (p :: r) → labO R p ≤ costC xs ys (p :: r) := by
  have hp : ∀ p : Pl, p.1 < xs.length → p.2 < ys.length → labO R p ≤ cellC xs ys p + (minI ((nexts xs.length ys.length p).map (labO R))).getD 0 := fun p h1 h2 => by
    have := List.all_eq_true.mp (List.all_eq_true.mp hf p.1 (List.mem_range.mpr h1)) p.2 (List.mem_range.mpr h2)
    exact of_decide_eq_true this
  intro r
  induction r with
  | nil =>
    intro p h1 h2 h
    have hq := hp p h1 h2
    rw [(end_iff h1 h2).mp h] at hq
    have e : costC xs ys [p] = cellC xs ys p + 0 := rfl
    rw [e]
    exact hq
  | cons q r ih =>
    intro p h1 h2 h
    have hq := hp p h1 h2
    have hd := nxA_dm h.1
    have := ih q hd.1 hd.2.1 h.2
    have hn : q ∈ nexts xs.length ys.length p := by
      have := h.1
      rwa [nexts_nxA] at this
    obtain ⟨k, hk⟩ := minI_some (l := (nexts xs.length ys.length p).map (labO R)) (fun z => by rw [List.map_eq_nil_iff] at z; rw [z] at hn; cases hn)
    have := (minI_spec hk).2 _ (List.mem_map.mpr ⟨q, hn, rfl⟩)
    rw [hk] at hq
    have e : costC xs ys (p :: q :: r) = cellC xs ys p + costC xs ys (q :: r) := rfl
    have hq : labO R p ≤ cellC xs ys p + k := hq
    omega
/-- what is shown is due -/
theorem shows_due {v : D} (hx : Ser xs) (hy : Ser ys) : showsB xs ys v = dueB xs ys (labP xs ys none (0, 0)) v := by
  rw [Bool.eq_iff_iff, showsB_iff, dueB_iff]
  constructor
  · rintro ⟨c, c0, c1, w, R, rfl, hw, hc, hR, h0, hf⟩
    have hle : ∀ w', Walk xs.length ys.length none w' → c ≤ costC xs ys w' := fun w' ⟨r, e, h⟩ => by
      subst e
      rw [← h0]
      exact fine_le hf r (0, 0) hx.lo hy.lo h
    obtain ⟨w', h1, h2⟩ := labP_has (wide := none) (fun _ => none_w) hx hy
    have h3 := hle w' h1
    have h4 := labP_walk (wide := none) (fun _ => none_w) hx hy hw
    have : c = labP xs ys none (0, 0) := by omega
    subst this
    exact ⟨w, R, rfl, hw, hc, hR, h0, hf⟩
  · intro h
    obtain ⟨a, b⟩ := lab_b hx hy (p := (0, 0)) hx.lo hy.lo
    exact ⟨_, a, b, h⟩
/-- what least_walk tells is due -/
def rows0 (xs ys : List Int) : List (List Int) := (List.range xs.length).map fun (i : Nat) => (List.range ys.length).map fun (j : Nat) => labP xs ys none (i, j)
theorem rows0_D : rowsD xs ys = labR (rows0 xs ys) := by
  unfold rowsD labR rows0 rowD
  rw [List.map_map]
  congr 1
  refine List.map_congr_left fun i _ => ?_
  show _ = D.tup (((List.range ys.length).map fun (j : Nat) => labP xs ys none (i, j)).map .int)
  rw [List.map_map]
  rfl
theorem rows0_lab {p : Pl} (h1 : p.1 < xs.length) (h2 : p.2 < ys.length) : labO (rows0 xs ys) p = labP xs ys none p := by
  unfold labO rowAt rows0
  simp [List.getD, h1, h2]
theorem rows0_ok (hx : Ser xs) (hy : Ser ys) : OkR xs.length ys.length (rows0 xs ys) := by
  refine ⟨by unfold rows0; simp, fun r hr => ?_⟩
  obtain ⟨i, hi, rfl⟩ := List.mem_map.mp hr
  refine ⟨by simp, fun x hx' => ?_⟩
  obtain ⟨j, hj, rfl⟩ := List.mem_map.mp hx'
  exact lab_b hx hy (p := (i, j)) (List.mem_range.mp hi) (List.mem_range.mp hj)
theorem rows0_fine : fineR xs ys (rows0 xs ys) = true := by
  refine List.all_eq_true.mpr fun i hi => List.all_eq_true.mpr fun j hj => decide_eq_true ?_
  have hi := List.mem_range.mp hi
  have hj := List.mem_range.mp hj
  rw [rows0_lab (p := (i, j)) hi hj, labP_eq (fun _ => none_w) (dm_none (p := (i, j)) hi hj), nexts_nxA]
  rw [List.map_congr_left fun q hq => rows0_lab (p := q) (mem_nexts.mp hq).2.1 (mem_nexts.mp hq).2.2]
  exact Int.le_refl _
theorem told_due {w : List Pl} (hx : Ser xs) (hy : Ser ys) (hw : Walk xs.length ys.length none w) (hc : costC xs ys w = labP xs ys none (0, 0)) : Shown xs ys (labP xs ys none (0, 0)) (.tup [.str "walk", .int (labP xs ys none (0, 0)), walkD w, rowsD xs ys]) :=
  ⟨w, rows0 xs ys, by rw [rows0_D], hw, hc, rows0_ok hx hy, rows0_lab (p := (0, 0)) hx.lo hy.lo, rows0_fine⟩
end
end K71
set_option Elab.async false
set_option linter.all false
set_option maxRecDepth 100000
set_option maxHeartbeats 2000000
namespace K71
open PySem PySem.Spec PyProof.Rows L2 Dn
section
variable {xs ys : List Int} {η : Store}
/-! ### bound_of -/
def maxL (xs : List Int) : Int := (maxI xs).getD 0
def minL (xs : List Int) : Int := (minI xs).getD 0
def lastI (xs : List Int) : Int := xs.getD (xs.length - 1) 0
def endsI (xs ys : List Int) : Int := absI (xs.getD 0 0 - ys.getD 0 0) + (if xs.length + ys.length > 2 then absI (lastI xs - lastI ys) else 0)
def boundI (xs ys : List Int) : Int := max (max (endsI xs ys) (max 0 (maxL xs - maxL ys))) (max 0 (minL ys - minL xs))
theorem ser_ix0 (h : 1 ≤ xs.length) : dIx η (serD xs) (.int 0) = some (.int (xs.getD 0 0)) := ser_ix (i := 0) h
theorem ser_last (h : 1 ≤ xs.length) : dIx η (serD xs) (.int (-1)) = some (.int (lastI xs)) := by
  show atI (xs.map D.int) (-1) = _
  have hne : xs ≠ [] := fun z => by subst z; simp at h
  rw [atI_last (xs := xs.map D.int) (by simpa using hne), List.getLast_map, List.getLast_eq_getElem]
  unfold lastI
  simp [List.getD, List.getElem?_eq_getElem (show xs.length - 1 < xs.length by omega)]
theorem maxL_some (h : 1 ≤ xs.length) : maxI xs = some (maxL xs) := by
  obtain ⟨k, hk⟩ := maxI_some (l := xs) (fun z => by subst z; simp at h)
  unfold maxL
  rw [hk]
  rfl
theorem minL_some (h : 1 ≤ xs.length) : minI xs = some (minL xs) := by
  obtain ⟨k, hk⟩ := minI_some (l := xs) (fun z => by subst z; simp at h)
  unfold minL
  rw [hk]
  rfl
theorem ser_max (h : 1 ≤ xs.length) : dMax η [serD xs] = some (.int (maxL xs)) := by
  unfold serD
  rw [max_intsT, maxL_some h]
  rfl
theorem ser_min (h : 1 ≤ xs.length) : dMin η [serD xs] = some (.int (minL xs)) := by
  unfold serD
  rw [min_intsT, minL_some h]
  rfl
theorem bound_of_ok (hη : Pu η) (hx : Ser xs) (hy : Ser ys) : φ_bound_of [serD xs, serD ys] η = .ok (.int (boundI xs ys)) η := by
  show exitR η.length (fs_bound_of (startD 3 [serD xs, serD ys]) η) = _
  have e : fs_bound_of (startD 3 [serD xs, serD ys]) η = .rt (.int (boundI xs ys)) η := by
    have a1 := ser_ix0 (η := η) hx.lo
    have a2 := ser_ix0 (η := η) hy.lo
    have b1 := ser_last (η := η) hx.lo
    have b2 := ser_last (η := η) hy.lo
    have c1 := ser_max (η := η) hx.lo
    have c2 := ser_max (η := η) hy.lo
    have d1 := ser_min (η := η) hx.lo
    have d2 := ser_min (η := η) hy.lo
    unfold boundI endsI absI
    generalize xs.getD 0 0 = u1 at *
    generalize ys.getD 0 0 = u2 at *
    generalize lastI xs = v1 at *
    generalize lastI ys = v2 at *
    by_cases h : xs.length + ys.length > 2
    · have h' : (2 : Int) < (xs.length : Int) + ys.length := by omega
      rw [if_pos h]
      simp -implicitDefEqProofs [fs_bound_of, startD, e_sSeq, look_ser hη hx hy, a1, a2, b1, b2, c1, c2, d1, d2, h']
    · have h' : ¬ (2 : Int) < (xs.length : Int) + ys.length := by omega
      rw [if_neg h]
      simp -implicitDefEqProofs [fs_bound_of, startD, e_sSeq, look_ser hη hx hy, a1, a2, b1, b2, c1, c2, d1, d2, h']
  exact (congrArg _ e).trans (exit_rt0 hη rfl)
/-! ### cost_of_walk -/
theorem cost_of_walk_ok {w : List Pl} (hη : Pu η) (hx : Ser xs) (hy : Ser ys) (hw : Walk xs.length ys.length none w) : φ_cost_of_walk [serD xs, serD ys, walkD w] η = .ok (.int (costC xs ys w)) η := by
  show exitR η.length (fs_cost_of_walk (startD 3 [serD xs, serD ys, walkD w]) η) = _
  have wl := walk_small hw hx hy
  have iw := is_walk_ok (v := walkD w) hη hx hy (nice_deep _ (walk_nice wl.1).ok)
  rw [isWalkB_iff.mpr ⟨w, rfl, hw⟩] at iw
  have tc := told_cost_ok (xs := xs) (ys := ys) (w := w) hη (walk_inG hw hx hy) (by omega)
  have e : fs_cost_of_walk (startD 3 [serD xs, serD ys, walkD w]) η = .rt (.int (costC xs ys w)) η := by
    simp -implicitDefEqProofs [fs_cost_of_walk, startD, e_sSeq, iw, tc]
  exact (congrArg _ e).trans (exit_rt0 hη rfl)
theorem cost_of_walk_no {v : D} (hη : Pu η) (hx : Ser xs) (hy : Ser ys) (hv : v.deep = true) (h : isWalkB xs ys v = false) : φ_cost_of_walk [serD xs, serD ys, v] η = .rse "BadTold" v η := by
  show exitR η.length (fs_cost_of_walk (startD 3 [serD xs, serD ys, v]) η) = _
  have iw := is_walk_ok (v := v) hη hx hy hv
  rw [h] at iw
  have e : fs_cost_of_walk (startD 3 [serD xs, serD ys, v]) η = .rse "BadTold" v η := by
    simp -implicitDefEqProofs [fs_cost_of_walk, startD, e_sSeq, iw]
  exact (congrArg _ e).trans (exit_rse0 hη (deep_pure _ hv))
theorem band_no {v : D} (hη : Pu η) (hx : Ser xs) (hy : Ser ys) (hv : v.deep = true) (h : isIntD v 0 40 = false) : φ_least_walk_in_band [serD xs, serD ys, v] η = .rse "BadInt" v η := by
  show exitR η.length (fs_least_walk_in_band (startD 4 [serD xs, serD ys, v]) η) = _
  have ii := is_int_ok (v := v) (lo := 0) (hi := 40) hη (deep_told hv)
  rw [h] at ii
  have e : fs_least_walk_in_band (startD 4 [serD xs, serD ys, v]) η = .rse "BadInt" v η := by
    simp -implicitDefEqProofs [fs_least_walk_in_band, startD, e_sSeq, look_ser hη hx hy, ii]
  exact (congrArg _ e).trans (exit_rse0 hη (deep_pure _ hv))
/-! ### no series -/
theorem deep_elems {v : D} (hv : v.deep = true) : ∀ zs, v = .tup zs → ∀ z ∈ zs, z.told = true := fun zs e z hz => by
  subst e
  exact deep_told (deeps_mem (show D.deeps zs = true from hv) z hz)
theorem look_first {v u : D} (hη : Pu η) (hv : v.deep = true) (hu : u.deep = true) (h : isSerD v = false) : φ_look_at_series [v, u] η = .rse "BadTold" v η := by
  rw [look_ok hη (deep_told hv) (deep_elems hv) (deep_told hu) (deep_elems hu) (deep_pure _ hv) (deep_pure _ hu), h]
  rfl
theorem ser_deep : (serD xs).deep = true := deeps_of fun x hx => by
  obtain ⟨i, _, rfl⟩ := List.mem_map.mp hx
  rfl
theorem look_second {u : D} (hη : Pu η) (hx : Ser xs) (hu : u.deep = true) (h : isSerD u = false) : φ_look_at_series [serD xs, u] η = .rse "BadTold" u η := by
  rw [look_ok hη ser_told ser_tolds (deep_told hu) (deep_elems hu) ser_pure (deep_pure _ hu), hx.is, h]
  rfl
variable {v : D}
theorem bad1 (hη : Pu η) (hv : v.deep = true) (h : isSerD v = false) : φ_is_walk [v, serD ys, .non] η = .rse "BadTold" v η := by
  show exitR η.length (fs_is_walk (startD 5 [v, serD ys, .non]) η) = _
  have e : fs_is_walk (startD 5 [v, serD ys, .non]) η = .rse "BadTold" v η := by
    simp -implicitDefEqProofs [fs_is_walk, startD, e_sSeq, look_first hη hv ser_deep h]
  exact (congrArg _ e).trans (exit_rse0 hη (deep_pure _ hv))
theorem bad2 (hη : Pu η) (hx : Ser xs) (hv : v.deep = true) (h : isSerD v = false) : φ_cost_of_walk [serD xs, v, .non] η = .rse "BadTold" v η := by
  show exitR η.length (fs_cost_of_walk (startD 3 [serD xs, v, .non]) η) = _
  have iw : φ_is_walk [serD xs, v, .non] η = .rse "BadTold" v η := by
    show exitR η.length (fs_is_walk (startD 5 [serD xs, v, .non]) η) = _
    have e : fs_is_walk (startD 5 [serD xs, v, .non]) η = .rse "BadTold" v η := by
      simp -implicitDefEqProofs [fs_is_walk, startD, e_sSeq, look_second hη hx hv h]
    exact (congrArg _ e).trans (exit_rse0 hη (deep_pure _ hv))
  have e : fs_cost_of_walk (startD 3 [serD xs, v, .non]) η = .rse "BadTold" v η := by
    simp -implicitDefEqProofs [fs_cost_of_walk, startD, e_sSeq, iw]
  exact (congrArg _ e).trans (exit_rse0 hη (deep_pure _ hv))
theorem bad3 (hη : Pu η) (hv : v.deep = true) (h : isSerD v = false) : φ_least_walk [v, .non] η = .rse "BadTold" v η := by
  show exitR η.length (fs_least_walk (startD 6 [v, .non]) η) = _
  have e : fs_least_walk (startD 6 [v, .non]) η = .rse "BadTold" v η := by
    simp -implicitDefEqProofs [fs_least_walk, startD, e_sSeq, look_first hη hv (u := .non) rfl h]
  exact (congrArg _ e).trans (exit_rse0 hη (deep_pure _ hv))
theorem bad4 (hη : Pu η) (hx : Ser xs) (hv : v.deep = true) (h : isSerD v = false) : φ_shows_least_walk [serD xs, v, .non] η = .rse "BadTold" v η := by
  show exitR η.length (fs_shows_least_walk (startD 10 [serD xs, v, .non]) η) = _
  have e : fs_shows_least_walk (startD 10 [serD xs, v, .non]) η = .rse "BadTold" v η := by
    refine seq_rse ?_
    simp -implicitDefEqProofs [shows_least_walk_s0, startD, look_second hη hx hv h]
  exact (congrArg _ e).trans (exit_rse0 hη (deep_pure _ hv))
theorem bad5 (hη : Pu η) (hv : v.deep = true) (h : isSerD v = false) : φ_least_walk_in_band [v, .non, .non] η = .rse "BadTold" v η := by
  show exitR η.length (fs_least_walk_in_band (startD 4 [v, .non, .non]) η) = _
  have e : fs_least_walk_in_band (startD 4 [v, .non, .non]) η = .rse "BadTold" v η := by
    simp -implicitDefEqProofs [fs_least_walk_in_band, startD, e_sSeq, look_first hη hv (u := .non) rfl h]
  exact (congrArg _ e).trans (exit_rse0 hη (deep_pure _ hv))
theorem bad6 (hη : Pu η) (hx : Ser xs) (hv : v.deep = true) (h : isSerD v = false) : φ_how_many_walks [serD xs, v] η = .rse "BadTold" v η := by
  show exitR η.length (fs_how_many_walks (startD 7 [serD xs, v]) η) = _
  have e : fs_how_many_walks (startD 7 [serD xs, v]) η = .rse "BadTold" v η := by
    simp -implicitDefEqProofs [fs_how_many_walks, startD, e_sSeq, look_second hη hx hv h]
  exact (congrArg _ e).trans (exit_rse0 hη (deep_pure _ hv))
theorem bad7 (hη : Pu η) (hv : v.deep = true) (h : isSerD v = false) : φ_how_many_least [v, serD ys] η = .rse "BadTold" v η := by
  show exitR η.length (fs_how_many_least (startD 8 [v, serD ys]) η) = _
  have e : fs_how_many_least (startD 8 [v, serD ys]) η = .rse "BadTold" v η := by
    simp -implicitDefEqProofs [fs_how_many_least, startD, e_sSeq, look_first hη hv ser_deep h]
  exact (congrArg _ e).trans (exit_rse0 hη (deep_pure _ hv))
theorem bad8 (hη : Pu η) (hx : Ser xs) (hv : v.deep = true) (h : isSerD v = false) : φ_bound_of [serD xs, v] η = .rse "BadTold" v η := by
  show exitR η.length (fs_bound_of (startD 3 [serD xs, v]) η) = _
  have e : fs_bound_of (startD 3 [serD xs, v]) η = .rse "BadTold" v η := by
    simp -implicitDefEqProofs [fs_bound_of, startD, e_sSeq, look_second hη hx hv h]
  exact (congrArg _ e).trans (exit_rse0 hη (deep_pure _ hv))
end
end K71
set_option Elab.async false
set_option linter.all false
set_option maxRecDepth 100000
set_option maxHeartbeats 2000000
namespace K71
open PySem PySem.Spec PyProof.Rows L2 Dn
section
variable {xs ys : List Int} {η : Store}
def badL : List D := [.non, .tup [], .lst [.int 1], .tup [.bl true], .tup [.int 1000001], .tup (List.replicate 41 (.int 1)), .int 5, .tup [.str "1"]]
def badW : List D := [.non, .tup [], .tup [.tup [.int 0, .int 0], .tup [.int 9, .int 9]], .lst [.tup [.int 0, .int 0]], .tup [.tup [.int 1, .int 1]], .int 5]
def badI : List D := [.non, .bl true, .int (-1), .int 41, .str "1"]
theorem nice_of {d : D} (h : (d.nice && decide (d.wt ≤ 100000) && decide (d.dp ≤ 30)) = true) : Nice 100000 30 d := by
  simp only [Bool.and_eq_true, decide_eq_true_eq] at h
  exact ⟨h.1.1, h.1.2, h.2⟩
theorem badL_ok : ∀ d ∈ badL, isSerD d = false ∧ Nice 100000 30 d := by
  unfold badL
  intro d hd
  simp only [List.mem_cons, List.not_mem_nil, or_false] at hd
  rcases hd with rfl | rfl | rfl | rfl | rfl | rfl | rfl | rfl <;> exact ⟨by decide +kernel, nice_of (by decide +kernel)⟩
theorem badI_ok : ∀ d ∈ badI, isIntD d 0 40 = false ∧ Nice 100000 30 d := by
  unfold badI
  intro d hd
  simp only [List.mem_cons, List.not_mem_nil, or_false] at hd
  rcases hd with rfl | rfl | rfl | rfl | rfl <;> exact ⟨by decide +kernel, nice_of (by decide +kernel)⟩
theorem badW_ok (hx : 1 ≤ xs.length) (hy : 1 ≤ ys.length) (hx4 : xs.length ≤ 4) : ∀ d ∈ badW, isWalkB xs ys d = false ∧ Nice 100000 30 d := by
  have wd : ∀ w, (D.tup [.tup [.int 0, .int 0], .tup [.int 9, .int 9]] = walkD w ↔ w = [(0, 0), (9, 9)]) := fun w => ⟨fun z => (walkD_inj (show walkD [(0, 0), (9, 9)] = walkD w from z)).symm, fun z => by subst z; rfl⟩
  have wd2 : ∀ w, (D.tup [.tup [.int 1, .int 1]] = walkD w ↔ w = [(1, 1)]) := fun w => ⟨fun z => (walkD_inj (show walkD [(1, 1)] = walkD w from z)).symm, fun z => by subst z; rfl⟩
  unfold badW
  intro d hd
  simp only [List.mem_cons, List.not_mem_nil, or_false] at hd
  rcases hd with rfl | rfl | rfl | rfl | rfl | rfl
  · exact ⟨isWalkB_no (fun ⟨w, h, _⟩ => nomatch h), nice_of (by decide +kernel)⟩
  · refine ⟨isWalkB_no fun ⟨w, h, r, e, _⟩ => ?_, nice_of (by decide +kernel)⟩
    subst e
    simp [walkD] at h
  · refine ⟨isWalkB_no fun ⟨w, h, hw⟩ => ?_, nice_of (by decide +kernel)⟩
    obtain rfl := (wd w).mp h
    have := (walk_in hw hx hy (9, 9) (by simp)).1
    dsimp only at this
    omega
  · exact ⟨isWalkB_no (fun ⟨w, h, _⟩ => nomatch h), nice_of (by decide +kernel)⟩
  · refine ⟨isWalkB_no fun ⟨w, h, r, e, _⟩ => ?_, nice_of (by decide +kernel)⟩
    obtain rfl := (wd2 w).mp h
    cases e
  · exact ⟨isWalkB_no (fun ⟨w, h, _⟩ => nomatch h), nice_of (by decide +kernel)⟩
theorem mul41 : dMul η (.tup [.int 1]) (.int 41) = some (.tup (List.replicate 41 (.int 1))) := by
  unfold dMul
  dsimp only
  rw [if_pos ⟨by simp, by decide, by decide, by simp⟩]
  rfl
theorem choose_ok {i b : Nat} {L : List D} {P : D → Prop} (hη : Pu η) (hp : Pot η i b) (hb : b < 1000000) (hne : L ≠ []) (hl : L.length ≤ 1000) (hL : ∀ d ∈ L, P d ∧ Nice 100000 30 d) : ∃ (d : D) (η' : Store), φ__law_of [.ref i, .lst L] η = .ok d η' ∧ P d ∧ Nice 100000 30 d ∧ Pu η' ∧ Pot η' i (b + 1) ∧ Same i η η' := by
  obtain ⟨d, η', e, hd, h1, h2, h3⟩ := of_ok (xs := L) hη hp (by omega) hne (by omega) (nice_pures fun x hx => (hL x hx).2)
  exact ⟨d, η', e, (hL d hd).1, (hL d hd).2, h1, h2, h3⟩
theorem are_refused_ok {i b : Nat} (hη : Pu η) (hp : Pot η i b) (hb : b < 900000) (hx : Ser xs) (hy : Ser ys) (hx4 : xs.length ≤ 4) : ∃ η', φ__law_are_refused [.ref i, serD xs, serD ys] η = .ok (.bl true) η' ∧ Pu η' ∧ Pot η' i (b + 3) ∧ Same i η η' := by
  obtain ⟨v, η1, e1, hv, nv, p1, q1, s1⟩ := choose_ok (L := badL) (P := fun d => isSerD d = false) hη hp (by omega) nofun (by decide) badL_ok
  obtain ⟨u, η2, e2, hu, nu, p2, q2, s2⟩ := choose_ok (L := badW) (P := fun d => isWalkB xs ys d = false) p1 q1 (by omega) nofun (by decide) (badW_ok hx.lo hy.lo hx4)
  obtain ⟨z, η3, e3, hz, nz, p3, q3, s3⟩ := choose_ok (L := badI) (P := fun d => isIntD d 0 40 = false) p2 q2 (by omega) nofun (by decide) badI_ok
  refine ⟨η3, ?_, p3, q3, s1.trans (s2.trans s3)⟩
  have dv := nice_deep _ nv.ok
  have du := nice_deep _ nu.ok
  have dz := nice_deep _ nz.ok
  show exitR η.length (fs__law_are_refused (startD 8 [.ref i, serD xs, serD ys]) η) = _
  have e0 : startD 8 [.ref i, serD xs, serD ys] = [some (.ref i), some (serD xs), some (serD ys), none, none, none, none, none] := rfl
  have f8 : ∀ {a1 a2 a3 a4 a5 a6 a7 a8 : D}, fits [a1, a2, a3, a4, a5, a6, a7, a8] = true := fits_le (by simp)
  have e : fs__law_are_refused (startD 8 [.ref i, serD xs, serD ys]) η = .rt (.bl true) η3 := by
    rw [e0]
    unfold fs__law_are_refused
    have t0 : _law_are_refused_s0 [some (.ref i), some (serD xs), some (serD ys), none, none, none, none, none] η = .nx [some (.ref i), some (serD xs), some (serD ys), some v, none, none, none, none] η1 := by
      have e1' : φ__law_of [.ref i, .lst [.non, .tup [], .lst [.int 1], .tup [.bl true], .tup [.int 1000001], .tup (List.replicate 41 (.int 1)), .int 5, .tup [.str "1"]]] η = _ := e1
      have m41 := mul41 (η := η)
      generalize List.replicate 41 (D.int 1) = L41 at *
      simp -implicitDefEqProofs [_law_are_refused_s0, pow_6, m41, f8, e1']
    rw [seq_nx t0]
    have b1 := bad1 (ys := ys) p1 dv hv
    have b2 := bad2 p1 hx dv hv
    have b3 := bad3 p1 dv hv
    have b4 := bad4 p1 hx dv hv
    have b5 := bad5 p1 dv hv
    have b6 := bad6 p1 hx dv hv
    have b7 := bad7 (ys := ys) p1 dv hv
    have b8 := bad8 p1 hx dv hv
    have tc : ("BadTold" : Str) ∈ cs := by decide
    have hc1 : heard1 cs (.rse "BadTold" v η1 : R D) = .ok (D.exc "BadTold" v) η1 := by
      simp [heard1, tc]
    obtain ⟨sv, hsv⟩ : ∃ s, ∀ η, dRepr η [v] = some (.str s) := by
      obtain ⟨p, ep, _⟩ := repr_nice (η := η) nv
      refine ⟨p.shown, fun η => ?_⟩
      obtain ⟨p', ep', h⟩ := repr_nice (η := η) nv
      rw [ep] at ep'
      cases ep'
      exact h
    obtain ⟨su, hsu⟩ : ∃ s, ∀ η, dRepr η [u] = some (.str s) := by
      obtain ⟨p, ep, _⟩ := repr_nice (η := η) nu
      refine ⟨p.shown, fun η => ?_⟩
      obtain ⟨p', ep', h⟩ := repr_nice (η := η) nu
      rw [ep] at ep'
      cases ep'
      exact h
    obtain ⟨sz, hsz⟩ : ∃ s, ∀ η, dRepr η [z] = some (.str s) := by
      obtain ⟨p, ep, _⟩ := repr_nice (η := η) nz
      refine ⟨p.shown, fun η => ?_⟩
      obtain ⟨p', ep', h⟩ := repr_nice (η := η) nz
      rw [ep] at ep'
      cases ep'
      exact h
    have hasks : asksD cs [some (.ref i), some (serD xs), some (serD ys), some v, none, none, none, none] [(fCa 3 φ_is_walk (fCons (fVar 3) (fCons (fVar 2) (fCons (fC .non) fNil)))), (fCa 3 φ_cost_of_walk (fCons (fVar 1) (fCons (fVar 3) (fCons (fC .non) fNil)))), (fCa 2 φ_least_walk (fCons (fVar 3) (fCons (fC .non) fNil))), (fCa 3 φ_shows_least_walk (fCons (fVar 1) (fCons (fVar 3) (fCons (fC .non) fNil)))), (fCa 3 φ_least_walk_in_band (fCons (fVar 3) (fCons (fC .non) (fCons (fC .non) fNil)))), (fCa 2 φ_how_many_walks (fCons (fVar 1) (fCons (fVar 3) fNil))), (fCa 2 φ_how_many_least (fCons (fVar 3) (fCons (fVar 2) fNil))), (fCa 2 φ_bound_of (fCons (fVar 1) (fCons (fVar 3) fNil)))] η1 = .ok (List.replicate 8 (D.exc "BadTold" v)) η1 := by
      simp -implicitDefEqProofs [asksD, b1, b2, b3, b4, b5, b6, b7, b8, hc1, List.replicate]
    simp only [askStart, askMore, askEnd, List.cons_append, List.nil_append, List.length_cons, List.length_nil, Nat.zero_add, Nat.reduceAdd, Nat.reduceLT, if_true, List.set_cons_succ, List.set_cons_zero]
    rw [hasks]
    simp only [R.thn_ok, List.set_cons_succ, List.set_cons_zero]
    have c0 : _law_are_refused_c0 [some (.ref i), some (serD xs), some (serD ys), some v, none, some (.lst (List.replicate 8 (D.exc "BadTold" v))), none, none] η1 = .ok (.lst ((List.replicate 8 (D.exc "BadTold" v)).map fun _ => .bl true)) η1 :=
      fLc_all id (fun _ => .bl true) (List.replicate 8 (D.exc "BadTold" v)) (by rw [List.map_id]; rfl) (by rw [List.length_replicate, sizeLine_eq]; omega) fun x hx => ⟨_, rfl, by
        rw [List.eq_of_mem_replicate hx]
        simp -implicitDefEqProofs [_law_are_refused_e0, dIsx, tc, hsv]⟩
    have ab := all_bls (η := η1) (l := List.replicate 8 (D.exc "BadTold" v)) (f := fun _ => true)
    have al : (List.replicate 8 (D.exc "BadTold" v)).all (fun _ => true) = true := by simp
    rw [al] at ab
    generalize (List.replicate 8 (D.exc "BadTold" v)).map (fun _ => D.bl true) = bl at *
    generalize List.replicate 8 (D.exc "BadTold" v) = cl at *
    have t1 : _law_are_refused_s1 [some (.ref i), some (serD xs), some (serD ys), some v, none, some (.lst cl), none, none] η1 = .nx [some (.ref i), some (serD xs), some (serD ys), some v, none, some (.lst cl), none, none] η1 := by
      simp -implicitDefEqProofs [_law_are_refused_s1, c0, ab]
    rw [seq_nx t1]
    have t2 : _law_are_refused_s2 [some (.ref i), some (serD xs), some (serD ys), some v, none, some (.lst cl), none, none] η1 = .nx [some (.ref i), some (serD xs), some (serD ys), some u, none, some (.lst cl), none, none] η2 := by
      have e2' : φ__law_of [.ref i, .lst [.non, .tup [], .tup [.tup [.int 0, .int 0], .tup [.int 9, .int 9]], .lst [.tup [.int 0, .int 0]], .tup [.tup [.int 1, .int 1]], .int 5]] η1 = _ := e2
      simp -implicitDefEqProofs [_law_are_refused_s2, e2']
    rw [seq_nx t2]
    have cw := cost_of_walk_no p2 hx hy du hu
    have t3 : _law_are_refused_s3 [some (.ref i), some (serD xs), some (serD ys), some u, none, some (.lst cl), none, none] η2 = .nx [some (.ref i), some (serD xs), some (serD ys), some u, none, some (.exc "BadTold" u), none, none] η2 := by
      simp -implicitDefEqProofs [_law_are_refused_s3, cw, tc]
    rw [seq_nx t3]
    have t4 : _law_are_refused_s4 [some (.ref i), some (serD xs), some (serD ys), some u, none, some (.exc "BadTold" u), none, none] η2 = .nx [some (.ref i), some (serD xs), some (serD ys), some u, none, some (.exc "BadTold" u), none, none] η2 := by
      simp -implicitDefEqProofs [_law_are_refused_s4, dIsx, tc, hsu]
    rw [seq_nx t4]
    have t5 : _law_are_refused_s5 [some (.ref i), some (serD xs), some (serD ys), some u, none, some (.exc "BadTold" u), none, none] η2 = .nx [some (.ref i), some (serD xs), some (serD ys), some z, none, some (.exc "BadTold" u), none, none] η3 := by
      have e3' : φ__law_of [.ref i, .lst [.non, .bl true, .int (-1), .int 41, .str "1"]] η2 = _ := e3
      simp -implicitDefEqProofs [_law_are_refused_s5, e3']
    rw [seq_nx t5]
    have bn := band_no p3 hx hy dz hz
    have ti : ("BadInt" : Str) ∈ cs := by decide
    have t6 : _law_are_refused_s6 [some (.ref i), some (serD xs), some (serD ys), some z, none, some (.exc "BadTold" u), none, none] η3 = .nx [some (.ref i), some (serD xs), some (serD ys), some z, none, some (.exc "BadInt" z), none, none] η3 := by
      simp -implicitDefEqProofs [_law_are_refused_s6, bn, ti]
    rw [seq_nx t6]
    simp -implicitDefEqProofs [_law_are_refused_s7, dIsx, ti, hsz]
  exact (congrArg _ e).trans (exit_rt' (by rw [s3.len, s2.len, s1.len]) p3 rfl)
end
end K71
set_option Elab.async false
set_option linter.all false
set_option maxRecDepth 100000
set_option maxHeartbeats 2000000
namespace K71
open PySem PySem.Spec PyProof.Rows L2 Dn
section
variable {xs ys : List Int}
theorem lab_step {p q : Pl} (h1 : p.1 < xs.length) (h2 : p.2 < ys.length) (hq : q ∈ nexts xs.length ys.length p) : labP xs ys none p ≤ cellC xs ys p + labP xs ys none q := by
  rw [labP_eq (fun _ => none_w) (dm_none h1 h2), nexts_nxA]
  obtain ⟨k, hk⟩ := minI_some (l := (nexts xs.length ys.length p).map (labP xs ys none)) (fun z => by rw [List.map_eq_nil_iff] at z; rw [z] at hq; cases hq)
  have := (minI_spec hk).2 _ (List.mem_map.mpr ⟨q, hq, rfl⟩)
  rw [hk]
  show cellC xs ys p + k ≤ _
  omega
/-! ### exchanged -/
def swp (p : Pl) : Pl := (p.2, p.1)
theorem cell_swp (p : Pl) : cellC ys xs (swp p) = cellC xs ys p := by
  unfold cellC absI swp
  dsimp only
  split <;> split <;> omega
theorem nexts_swp {n m : Nat} (p : Pl) : (nexts m n (swp p)).Perm ((nexts n m p).map swp) := by
  have e : nexts m n (swp p) = (([(p.1 + 1, p.2 + 1), (p.1 + 1, p.2), (p.1, p.2 + 1)] : List Pl).filter fun q => decide (q.1 < n) && decide (q.2 < m)).map swp := by
    show (([(p.1 + 1, p.2 + 1), (p.1 + 1, p.2), (p.1, p.2 + 1)] : List Pl).map swp).filter (fun q => decide (q.1 < m) && decide (q.2 < n)) = _
    rw [List.filter_map]
    congr 1
    exact List.filter_congr fun q _ => Bool.and_comm _ _
  rw [e]
  refine List.Perm.map _ (List.Perm.filter _ ?_)
  exact .cons _ (.swap _ _ _)
theorem lab_sym : ∀ (k : Nat) (p : Pl), rkP xs.length ys.length p ≤ k → p.1 < xs.length → p.2 < ys.length → labP ys xs none (swp p) = labP xs ys none p
  | k, p, hk, h1, h2 => by
    rw [labP_eq (p := p) (fun _ => none_w) (dm_none h1 h2), labP_eq (xs := ys) (ys := xs) (p := swp p) (fun _ => none_w) (dm_none (p := swp p) h2 h1), nexts_nxA, nexts_nxA, cell_swp]
    congr 2
    rw [minI_perm ((nexts_swp p).map (labP ys xs none)), List.map_map]
    congr 1
    refine List.map_congr_left fun q hq => ?_
    obtain ⟨_, q1, q2⟩ := mem_nexts.mp hq
    have hd := ((down xs.length ys.length none (fun _ => none_w)).dec p q (dm_none h1 h2) (by rw [nexts_nxA]; exact hq)).1
    match k, hk with
    | 0, hk => omega
    | k + 1, hk => exact lab_sym k q (by omega) q1 q2
/-! ### turned about -/
def rvs (n m : Nat) (p : Pl) : Pl := (n - 1 - p.1, m - 1 - p.2)
theorem path_snoc {α : Type} {nx : α → List α} {e e' : α} (he : e' ∈ nx e) : ∀ (l : List α) (a : α), IsPath nx e (a :: l) → IsPath nx e' (a :: (l ++ [e']))
  | [], a, h => by
    have h : a = e := h
    subst h
    exact ⟨he, rfl⟩
  | b :: l, a, h => ⟨h.1, path_snoc he l b h.2⟩
theorem rvs_step {n m : Nat} {p q : Pl} (h1 : p.1 < n) (h2 : p.2 < m) (h : q ∈ nexts n m p) : rvs n m p ∈ nexts n m (rvs n m q) := by
  obtain ⟨hs, q1, q2⟩ := mem_nexts.mp h
  unfold rvs
  refine mem_nexts.mpr ⟨?_, by dsimp only; omega, by dsimp only; omega⟩
  rcases hs with rfl | rfl | rfl
  · exact .inl (Prod.ext (by dsimp only at *; omega) (by dsimp only at *; omega))
  · exact .inr (.inl (Prod.ext (by dsimp only at *) (by dsimp only at *; omega)))
  · exact .inr (.inr (Prod.ext (by dsimp only at *; omega) (by dsimp only at *)))
theorem rev_path {n m : Nat} : ∀ (r : List Pl) (p : Pl), p.1 < n → p.2 < m → IsPath (nexts n m) (endP n m) (p :: r) → ∃ r', ((p :: r).map (rvs n m)).reverse = (0, 0) :: r' ∧ IsPath (nexts n m) (rvs n m p) ((0, 0) :: r')
  | [], p, h1, h2, h => by
    have h : p = endP n m := h
    subst h
    refine ⟨[], ?_, ?_⟩
    · simp [rvs, endP]
    · show (0, 0) = rvs n m (endP n m)
      simp [rvs, endP]
  | q :: r, p, h1, h2, h => by
    obtain ⟨_, q1, q2⟩ := mem_nexts.mp h.1
    obtain ⟨r', e, hp⟩ := rev_path r q q1 q2 h.2
    refine ⟨r' ++ [rvs n m p], ?_, path_snoc (rvs_step h1 h2 h.1) r' (0, 0) hp⟩
    rw [List.map_cons, List.reverse_cons, e]
    rfl
theorem rev_get {xs : List Int} {i : Nat} (h : i < xs.length) : xs.reverse.getD (xs.length - 1 - i) 0 = xs.getD i 0 := by
  have h' : xs.length - 1 - i < xs.reverse.length := by rw [List.length_reverse]; omega
  simp only [List.getD, List.getElem?_eq_getElem h, List.getElem?_eq_getElem h', List.getElem_reverse, Option.getD_some]
  congr 1
  omega
theorem rev_le (hx : Ser xs) (hy : Ser ys) : labP xs.reverse ys.reverse none (0, 0) ≤ labP xs ys none (0, 0) := by
  have hx' : Ser xs.reverse := ⟨by rw [List.length_reverse]; exact hx.lo, by rw [List.length_reverse]; exact hx.hi, fun x h => hx.b x (List.mem_reverse.mp h)⟩
  have hy' : Ser ys.reverse := ⟨by rw [List.length_reverse]; exact hy.lo, by rw [List.length_reverse]; exact hy.hi, fun x h => hy.b x (List.mem_reverse.mp h)⟩
  obtain ⟨w, hw, hc⟩ := labP_has (wide := none) (fun _ => none_w) hx hy
  have hin := walk_in hw hx.lo hy.lo
  obtain ⟨r, rfl, hp⟩ := hw
  rw [nx_none] at hp
  obtain ⟨r', e, hp'⟩ := rev_path r (0, 0) hx.lo hy.lo hp
  have he : rvs xs.length ys.length (0, 0) = endP xs.length ys.length := rfl
  rw [he] at hp'
  have hw' : Walk xs.reverse.length ys.reverse.length none ((0, 0) :: r') := ⟨r', rfl, by rw [nx_none, List.length_reverse, List.length_reverse]; exact hp'⟩
  have h1 := labP_walk (wide := none) (fun _ => none_w) hx' hy' hw'
  have h2 : costC xs.reverse ys.reverse ((0, 0) :: r') = costC xs ys ((0, 0) :: r) := by
    rw [← e]
    unfold costC
    rw [List.map_reverse, List.sum_reverse, List.map_map]
    congr 1
    refine List.map_congr_left fun p hp => ?_
    obtain ⟨p1, p2⟩ := hin p hp
    show cellC xs.reverse ys.reverse (rvs xs.length ys.length p) = _
    unfold cellC rvs
    dsimp only
    rw [rev_get p1, rev_get p2]
  omega
theorem ser_rev (hx : Ser xs) : Ser xs.reverse := ⟨by rw [List.length_reverse]; exact hx.lo, by rw [List.length_reverse]; exact hx.hi, fun x h => hx.b x (List.mem_reverse.mp h)⟩
theorem lab_rev (hx : Ser xs) (hy : Ser ys) : labP xs.reverse ys.reverse none (0, 0) = labP xs ys none (0, 0) := by
  have h1 := rev_le hx hy
  have h2 := rev_le (ser_rev hx) (ser_rev hy)
  rw [List.reverse_reverse, List.reverse_reverse] at h2
  omega
/-! ### beside itself, beside itself twice -/
theorem lab_end {p : Pl} (h1 : p.1 < xs.length) (h2 : p.2 < ys.length) (he : p = endP xs.length ys.length) : labP xs ys none p = cellC xs ys p := by
  rw [labP_eq (fun _ => none_w) (dm_none h1 h2), nexts_nxA, (end_iff h1 h2).mp he]
  exact Int.add_zero _
theorem cell_zero {p : Pl} (h : xs.getD p.1 0 = ys.getD p.2 0) : cellC xs ys p = 0 := by
  unfold cellC absI
  rw [h, Int.sub_self]
  rfl
theorem lab_self0 : ∀ (k i : Nat), xs.length - i ≤ k → i < xs.length → labP xs xs none (i, i) ≤ 0
  | k, i, hk, hi => by
    by_cases he : i + 1 = xs.length
    · rw [lab_end (xs := xs) (ys := xs) (p := (i, i)) hi hi (Prod.ext (show i = xs.length - 1 by omega) (show i = xs.length - 1 by omega)), cell_zero rfl]
      exact Int.le_refl _
    · match k, hk with
      | 0, hk => omega
      | k + 1, hk =>
        have ih := lab_self0 k (i + 1) (by omega) (by omega)
        have := lab_step (xs := xs) (ys := xs) (p := (i, i)) (q := (i + 1, i + 1)) hi hi (mem_nexts.mpr ⟨.inl rfl, by dsimp only; omega, by dsimp only; omega⟩)
        rw [cell_zero rfl] at this
        omega
theorem lab_self (hx : Ser xs) : labP xs xs none (0, 0) = 0 := by
  have h1 := lab_self0 (xs := xs) xs.length 0 (by omega) hx.lo
  have h2 := (lab_b hx hx (p := (0, 0)) hx.lo hx.lo).1
  omega
def dbl (xs : List Int) : List Int := xs.flatMap fun x => [x, x]
theorem dbl_len : ∀ xs : List Int, (dbl xs).length = 2 * xs.length
  | [] => rfl
  | x :: xs => by
    have := dbl_len xs
    unfold dbl at this ⊢
    rw [List.flatMap_cons, List.length_append, this, List.length_cons, List.length_cons, List.length_cons, List.length_nil]
    omega
theorem dbl_get : ∀ (xs : List Int) (i : Nat), (dbl xs).getD (2 * i) 0 = xs.getD i 0 ∧ (dbl xs).getD (2 * i + 1) 0 = xs.getD i 0
  | [], i => by simp [dbl]
  | x :: xs, 0 => by simp [dbl]
  | x :: xs, i + 1 => by
    have := dbl_get xs i
    have e : dbl (x :: xs) = x :: x :: dbl xs := rfl
    rw [e, show 2 * (i + 1) = 2 * i + 1 + 1 by omega]
    simpa using this
theorem lab_dbl0 : ∀ (k i : Nat), xs.length - i ≤ k → i < xs.length → labP xs (dbl xs) none (i, 2 * i) ≤ 0
  | k, i, hk, hi => by
    have hl := dbl_len xs
    have z0 : cellC xs (dbl xs) (i, 2 * i) = 0 := cell_zero (dbl_get xs i).1.symm
    have z1 : cellC xs (dbl xs) (i, 2 * i + 1) = 0 := cell_zero (dbl_get xs i).2.symm
    have s0 := lab_step (xs := xs) (ys := dbl xs) (p := (i, 2 * i)) (q := (i, 2 * i + 1)) hi (by dsimp only; omega) (mem_nexts.mpr ⟨.inr (.inl rfl), hi, by dsimp only; omega⟩)
    by_cases he : i + 1 = xs.length
    · have := lab_end (xs := xs) (ys := dbl xs) (p := (i, 2 * i + 1)) hi (by dsimp only; omega) (Prod.ext (show i = xs.length - 1 by omega) (show 2 * i + 1 = (dbl xs).length - 1 by omega))
      omega
    · match k, hk with
      | 0, hk => omega
      | k + 1, hk =>
        have ih := lab_dbl0 k (i + 1) (by omega) (by omega)
        have s1 := lab_step (xs := xs) (ys := dbl xs) (p := (i, 2 * i + 1)) (q := (i + 1, 2 * (i + 1))) hi (by dsimp only; omega) (mem_nexts.mpr ⟨.inl (Prod.ext rfl (by dsimp only; omega)), by dsimp only; omega, by dsimp only; omega⟩)
        omega
theorem ser_dbl (hx : Ser xs) (h : xs.length ≤ 20) : Ser (dbl xs) := by
  refine ⟨by rw [dbl_len]; have := hx.lo; omega, by rw [dbl_len]; omega, fun x hx' => ?_⟩
  obtain ⟨y, hy, h2⟩ := List.mem_flatMap.mp hx'
  simp only [List.mem_cons, List.not_mem_nil, or_false, or_self] at h2
  rw [h2]
  exact hx.b y hy
theorem lab_dbl (hx : Ser xs) (h : xs.length ≤ 20) : labP xs (dbl xs) none (0, 0) = 0 := by
  have h1 := lab_dbl0 (xs := xs) xs.length 0 (by omega) hx.lo
  have h2 := (lab_b hx (ser_dbl hx h) (p := (0, 0)) hx.lo (ser_dbl hx h).lo).1
  have e : ((0, 2 * 0) : Pl) = (0, 0) := rfl
  rw [e] at h1
  omega
/-! ### a band as wide as all -/
theorem lab_band (hx : Ser xs) (hy : Ser ys) : labP xs ys (some 40) (0, 0) = labP xs ys none (0, 0) := by
  have hw : ∀ w, some (40 : Int) = some w → 0 ≤ w := fun w e => by cases e; decide
  have key : ∀ w, Walk xs.length ys.length (some 40) w ↔ Walk xs.length ys.length none w := fun w => by
    rw [walk_wide (dm0 hw hx hy)]
    refine ⟨fun h => h.1, fun h => ⟨h, fun p hp => ?_⟩⟩
    have := walk_in h hx.lo hy.lo p hp
    have := hx.hi
    have := hy.hi
    unfold bandA
    simp only [Bool.and_eq_true, decide_eq_true_eq]
    omega
  obtain ⟨w1, a1, b1⟩ := labP_has (wide := some 40) hw hx hy
  obtain ⟨w2, a2, b2⟩ := labP_has (wide := none) (fun _ => none_w) hx hy
  have h1 := labP_walk (wide := none) (fun _ => none_w) hx hy ((key w1).mp a1)
  have h2 := labP_walk hw hx hy ((key w2).mpr a2)
  omega
theorem cntL_le : cntLP xs ys (0, 0) ≤ cntP xs.length ys.length (0, 0) := by
  unfold cntLP cntL cntP walksP
  have := List.length_filter_le (fun w => decide ((w.map (cellC xs ys)).sum = lab (nxA xs.length ys.length none) (cellC xs ys) (xs.length + ys.length) (0, 0))) (paths (nxA xs.length ys.length none) (endP xs.length ys.length) (xs.length + ys.length) (0, 0))
  omega
/-! ### the bound -/
theorem rows_seen {n m : Nat} : ∀ (r : List Pl) (p : Pl), IsPath (nexts n m) (endP n m) (p :: r) → ∀ i, p.1 ≤ i → i < n → ∃ q ∈ p :: r, q.1 = i
  | [], p, h, i, h1, h2 => by
    have h : p = endP n m := h
    subst h
    refine ⟨_, List.mem_singleton.mpr rfl, ?_⟩
    show n - 1 = i
    have h1 : n - 1 ≤ i := h1
    omega
  | a :: r, p, h, i, h1, h2 => by
    by_cases hi : p.1 = i
    · exact ⟨p, List.mem_cons_self, hi⟩
    · obtain ⟨hs, _, _⟩ := mem_nexts.mp h.1
      have ha : a.1 ≤ i := by rcases hs with rfl | rfl | rfl <;> dsimp only <;> omega
      obtain ⟨q, hq, e⟩ := rows_seen r a h.2 i ha h2
      exact ⟨q, List.mem_cons_of_mem _ hq, e⟩
theorem cost_ge (hx : Ser xs) (hy : Ser ys) : ∀ {w : List Pl} {p : Pl}, p ∈ w → cellC xs ys p ≤ costC xs ys w
  | q :: w, p, h => by
    have e : costC xs ys (q :: w) = cellC xs ys q + costC xs ys w := rfl
    have hc := (cost_b hx hy w).1
    have hq := (cell_b hx hy q).1
    rcases List.mem_cons.mp h with rfl | h
    · omega
    · have := cost_ge hx hy h
      omega
theorem get_mem {xs : List Int} {x : Int} (h : x ∈ xs) : ∃ i, i < xs.length ∧ xs.getD i 0 = x := by
  obtain ⟨i, hi, e⟩ := List.mem_iff_getElem.mp h
  exact ⟨i, hi, by simp [List.getD, List.getElem?_eq_getElem hi, e]⟩
theorem getD_mem {xs : List Int} {i : Nat} (h : i < xs.length) : xs.getD i 0 ∈ xs := by
  have : xs.getD i 0 = xs[i] := by simp [List.getD, List.getElem?_eq_getElem h]
  rw [this]
  exact List.getElem_mem h
theorem bound_le (hx : Ser xs) (hy : Ser ys) : boundI xs ys ≤ labP xs ys none (0, 0) := by
  obtain ⟨w, hw, hc⟩ := labP_has (wide := none) (fun _ => none_w) hx hy
  rw [← hc]
  have hin := walk_in hw hx.lo hy.lo
  obtain ⟨r, rfl, hp⟩ := hw
  rw [nx_none] at hp
  have h0 := (cost_b hx hy ((0, 0) :: r)).1
  obtain ⟨mx, mx2⟩ := maxI_spec (maxL_some hx.lo)
  obtain ⟨my, my2⟩ := maxI_spec (maxL_some hy.lo)
  obtain ⟨nx, nx2⟩ := minI_spec (minL_some hx.lo)
  obtain ⟨ny, ny2⟩ := minI_spec (minL_some hy.lo)
  have row : ∀ i, i < xs.length → ∃ j, j < ys.length ∧ absI (xs.getD i 0 - ys.getD j 0) ≤ costC xs ys ((0, 0) :: r) := fun i hi => by
    obtain ⟨q, hq, rfl⟩ := rows_seen r (0, 0) hp i (Nat.zero_le _) hi
    exact ⟨q.2, (hin q hq).2, cost_ge hx hy hq⟩
  have a1 : maxL xs - maxL ys ≤ costC xs ys ((0, 0) :: r) := by
    obtain ⟨i, hi, e⟩ := get_mem mx
    obtain ⟨j, hj, h⟩ := row i hi
    have := my2 _ (getD_mem hj)
    unfold absI at h
    rw [e] at h
    split at h <;> omega
  have a2 : minL ys - minL xs ≤ costC xs ys ((0, 0) :: r) := by
    obtain ⟨i, hi, e⟩ := get_mem nx
    obtain ⟨j, hj, h⟩ := row i hi
    have := ny2 _ (getD_mem hj)
    unfold absI at h
    rw [e] at h
    split at h <;> omega
  have a3 : endsI xs ys ≤ costC xs ys ((0, 0) :: r) := by
    unfold endsI
    have e : costC xs ys ((0, 0) :: r) = cellC xs ys (0, 0) + costC xs ys r := rfl
    have e0 : cellC xs ys (0, 0) = absI (xs.getD 0 0 - ys.getD 0 0) := rfl
    split
    · rename_i h2
      have hr : endP xs.length ys.length ∈ r := by
        have hl := ((path_iff (nx := nexts xs.length ys.length) (e := endP xs.length ys.length) (0, 0) r).mp hp).1
        match r, hl with
        | [], hl =>
          have hl : ((0, 0) : Pl) = endP xs.length ys.length := hl
          have a := congrArg Prod.fst hl
          have b := congrArg Prod.snd hl
          unfold endP at a b
          dsimp only at a b
          have := hx.lo
          have := hy.lo
          omega
        | q :: r, hl =>
          rw [List.getLast_cons (List.cons_ne_nil _ _)] at hl
          rw [← hl]
          exact List.getLast_mem _
      have := cost_ge hx hy hr
      have ee : cellC xs ys (endP xs.length ys.length) = absI (lastI xs - lastI ys) := rfl
      omega
    · have := (cost_b hx hy r).1
      omega
  unfold boundI
  omega
end
end K71
set_option Elab.async false
set_option linter.all false
set_option maxRecDepth 100000
set_option maxHeartbeats 2000000
namespace K71
open PySem PySem.Spec PyProof.Rows L2 Dn
section
variable {xs ys : List Int} {η : Store}
theorem ser_back : dBack η (serD xs) = some (serD xs.reverse) := by
  show some (D.tup (xs.map D.int).reverse) = _
  rw [← List.map_reverse]
  rfl
theorem shows_told {w : List Pl} (hη : Pu η) (hx : Ser xs) (hy : Ser ys) (hw : Walk xs.length ys.length none w) (hc : costC xs ys w = labP xs ys none (0, 0)) : φ_shows_least_walk [serD xs, serD ys, .tup [.str "walk", .int (labP xs ys none (0, 0)), walkD w, rowsD xs ys]] η = .ok (.bl true) η := by
  have hd : (D.tup [.str "walk", .int (labP xs ys none (0, 0)), walkD w, rowsD xs ys]).deep = true := by
    refine deeps_of fun x hx' => ?_
    simp only [List.mem_cons, List.not_mem_nil, or_false] at hx'
    rcases hx' with rfl | rfl | rfl | rfl
    · rfl
    · rfl
    · exact nice_deep _ (walk_nice (walk_small hw hx hy).1).ok
    · rw [rows0_D]
      refine deeps_of fun x hx' => ?_
      obtain ⟨r, _, rfl⟩ := List.mem_map.mp hx'
      refine deeps_of fun y hy' => ?_
      obtain ⟨z, _, rfl⟩ := List.mem_map.mp hy'
      rfl
  rw [shows_ok hη hx hy hd, shows_due hx hy, dueB_iff.mpr (told_due hx hy hw hc)]
theorem twice_ok {i : Nat} {y t : D} : ∀ (zs acc : List Int) (r5 : Option D), acc.length + 2 * zs.length ≤ 1000 → ∃ r5', forL (gN 5) _law_are_long_right_b0 (zs.map .int) [some (.ref i), some (serD xs), some y, some t, some (.lst (acc.map .int)), r5] η = .nx [some (.ref i), some (serD xs), some y, some t, some (.lst ((acc ++ dbl zs).map .int)), r5'] η
  | [], acc, r5, _ => ⟨r5, by rw [show dbl [] = [] from rfl, List.append_nil]; rfl⟩
  | z :: zs, acc, r5, hl => by
    rw [List.length_cons] at hl
    obtain ⟨r5', e⟩ := twice_ok zs (acc ++ [z, z]) (some (.int z)) (by rw [List.length_append, List.length_cons, List.length_singleton]; omega)
    refine ⟨r5', ?_⟩
    have ad := add_lst (η := η) (a := acc.map .int) (b := [.int z, .int z]) (by rw [List.length_map, List.length_cons, List.length_singleton]; omega)
    have b : _law_are_long_right_b0 [some (.ref i), some (serD xs), some y, some t, some (.lst (acc.map .int)), some (.int z)] η = .nx [some (.ref i), some (serD xs), some y, some t, some (.lst ((acc ++ [z, z]).map .int)), some (.int z)] η := by
      rw [List.map_append]
      generalize acc.map D.int = al at *
      simp -implicitDefEqProofs [_law_are_long_right_b0, ad]
    rw [show dbl (z :: zs) = [z, z] ++ dbl zs from rfl, ← List.append_assoc]
    simp only [List.map_cons, forL, e_gN, List.set_cons_succ, List.set_cons_zero, R.thn_ok, b, onS_nx]
    exact e
theorem are_long_right_ok {i b : Nat} (hη : Pu η) (hp : Pot η i b) (hb : b < 900000) : ∃ η', φ__law_are_long_right [.ref i] η = .ok (.bl true) η' ∧ Pu η' ∧ Pot η' i (b + 100) ∧ Same i η η' := by
  obtain ⟨xs, η1, e1, x1, x2, x3, p1, q1, s1⟩ := series_ok (most := 12) hη hp (by omega) (by decide) (by decide)
  obtain ⟨ys, η2, e2, y1, y2, y3, p2, q2, s2⟩ := series_ok (most := 12) p1 q1 (by omega) (by decide) (by decide)
  have hx : Ser xs := ⟨x1, by omega, fun x h => by have := x3 x h; omega⟩
  have hy : Ser ys := ⟨y1, by omega, fun x h => by have := y3 x h; omega⟩
  refine ⟨η2, ?_, p2, q2.mono (by omega), s1.trans s2⟩
  obtain ⟨w, hw, hc, lw⟩ := least_walk_ok p2 hx hy
  obtain ⟨w2, _, hc2, lw2⟩ := least_walk_ok p2 hy hx
  obtain ⟨w3, _, hc3, lw3⟩ := least_walk_ok p2 (ser_rev hx) (ser_rev hy)
  obtain ⟨w4, _, hc4, lw4⟩ := least_walk_ok p2 hx hx
  obtain ⟨w5, _, hc5, lw5⟩ := least_walk_in_band_ok (b := 40) p2 hx hy (by decide) (by decide)
  obtain ⟨w6, _, hc6, lw6⟩ := least_walk_ok p2 hx (ser_dbl hx (by omega))
  have sh := shows_told p2 hx hy hw hc
  have bo := bound_of_ok p2 hx hy
  have bl := bound_le hx hy
  rw [show labP ys xs none (0, 0) = labP xs ys none (0, 0) from lab_sym (xs := xs) (ys := ys) _ (0, 0) (Nat.le_refl _) hx.lo hy.lo] at lw2
  rw [lab_rev hx hy] at lw3
  rw [lab_self hx] at lw4
  rw [lab_band hx hy] at lw5
  rw [lab_dbl hx (by omega)] at lw6
  have hl := how_many_least_ok p2 hx hy
  have hm := how_many_walks_ok p2 hx hy
  have hcl := cntL_le (xs := xs) (ys := ys)
  obtain ⟨r5', tw⟩ := twice_ok (xs := xs) (η := η2) (i := i) (y := serD ys) (t := .tup [.str "walk", .int (labP xs ys none (0, 0)), walkD w, rowsD xs ys]) xs [] none (by rw [List.length_nil]; omega)
  rw [List.nil_append] at tw
  generalize labP xs ys none (0, 0) = c at *
  show exitR η.length (fs__law_are_long_right (startD 6 [.ref i]) η) = _
  have e0 : startD 6 [.ref i] = [some (.ref i), none, none, none, none, none] := rfl
  have e : fs__law_are_long_right (startD 6 [.ref i]) η = .rt (.bl true) η2 := by
    rw [e0]
    unfold fs__law_are_long_right
    rw [seq_nx (show _law_are_long_right_s0 [some (.ref i), none, none, none, none, none] η = .nx [some (.ref i), some (serD xs), some (serD ys), none, none, none] η2 by
      simp -implicitDefEqProofs [_law_are_long_right_s0, e1, e2])]
    generalize ht : D.tup [.str "walk", .int c, walkD w, rowsD xs ys] = t at *
    have t1 : dIx η2 t (.int 1) = some (.int c) := by rw [← ht]; exact ixt1
    rw [seq_nx (show _law_are_long_right_s1 [some (.ref i), some (serD xs), some (serD ys), none, none, none] η2 = .nx [some (.ref i), some (serD xs), some (serD ys), some t, none, none] η2 by
      simp -implicitDefEqProofs [_law_are_long_right_s1, lw])]
    have nb : dNotB η2 (.bl true) (.bl true) = some (.bl false) := rfl
    have bl' : ¬ c < boundI xs ys := by omega
    rw [seq_nx (show _law_are_long_right_s2 [some (.ref i), some (serD xs), some (serD ys), some t, none, none] η2 = .nx [some (.ref i), some (serD xs), some (serD ys), some t, none, none] η2 by
      simp -implicitDefEqProofs [_law_are_long_right_s2, sh, nb, bo, t1, bl'])]
    rw [seq_nx (show _law_are_long_right_s3 [some (.ref i), some (serD xs), some (serD ys), some t, none, none] η2 = .nx [some (.ref i), some (serD xs), some (serD ys), some t, none, none] η2 by
      simp -implicitDefEqProofs [_law_are_long_right_s3, lw2, lw3, t1, ser_back])]
    rw [seq_nx (show _law_are_long_right_s4 [some (.ref i), some (serD xs), some (serD ys), some t, none, none] η2 = .nx [some (.ref i), some (serD xs), some (serD ys), some t, none, none] η2 by
      simp -implicitDefEqProofs [_law_are_long_right_s4, lw4, lw5, t1])]
    rw [seq_nx (show _law_are_long_right_s5 [some (.ref i), some (serD xs), some (serD ys), some t, none, none] η2 = .nx [some (.ref i), some (serD xs), some (serD ys), some t, some (.lst []), none] η2 by
      simp -implicitDefEqProofs [_law_are_long_right_s5])]
    have l0 : _law_are_long_right_l0 [some (.ref i), some (serD xs), some (serD ys), some t, some (.lst []), none] η2 = _ := (sFor_eq (by simp -implicitDefEqProofs [serD])).trans tw
    rw [seq_nx (show _law_are_long_right_s6 _ η2 = _ from l0)]
    have lw6' : φ_least_walk [serD xs, .tup ((dbl xs).map .int)] η2 = _ := lw6
    have hcl' : cntLP xs ys (0, 0) ≤ cntP xs.length ys.length (0, 0) := hcl
    generalize (dbl xs).map D.int = db at *
    simp -implicitDefEqProofs [_law_are_long_right_s7, lw6', hl, hm, hcl']
  exact (congrArg _ e).trans (exit_rt' (by rw [s2.len, s1.len]) p2 rfl)
end
end K71
set_option Elab.async false
set_option linter.all false
set_option maxRecDepth 100000
set_option maxHeartbeats 2000000
namespace K71
open PySem PySem.Spec PyProof.Rows L2 Dn
section
variable {xs ys : List Int} {W : List (List Pl)} {w : List Pl} {η : Store} {i : Nat}
theorem repr_int {k : Int} (h : k.natAbs < 10 ^ 25) : ∃ s : Str, ∀ η, dRepr η [.int k] = some (.str s) := by
  have nk : Nice 100000 30 (.int k) := ⟨decide_eq_true h, by show 100 ≤ 100000; decide, Nat.zero_le _⟩
  obtain ⟨p, ep, _⟩ := repr_nice (η := []) nk
  refine ⟨p.shown, fun η => ?_⟩
  obtain ⟨p', ep', h⟩ := repr_nice (η := η) nk
  rw [ep] at ep'
  cases ep'
  exact h
/-- the walks of the law, with what is known -/
structure Lap (xs ys : List Int) (W : List (List Pl)) : Prop where
  x : Ser xs
  y : Ser ys
  x4 : xs.length ≤ 4
  y4 : ys.length ≤ 4
  p : W.Perm (walksP xs.length ys.length none (0, 0))
  l : W.length ≤ 100000
theorem Lap.wks (h : Lap xs ys W) : Wks xs ys W := ⟨fun w => by rw [h.p.mem_iff, mem_walksP (fun _ => none_w) h.x h.y], Nat.le_trans h.l (by decide)⟩
theorem Lap.is (h : Lap xs ys W) {w : List Pl} (hw : w ∈ W) : Walk xs.length ys.length none w := (h.wks.is w).mp hw
theorem Lap.ne (h : Lap xs ys W) : W ≠ [] := fun z => by
  obtain ⟨w, hw, _⟩ := labP_has (wide := none) (fun _ => none_w) h.x h.y
  have := (h.wks.is w).mpr hw
  rw [z] at this
  cases this
theorem Lap.min (h : Lap xs ys W) : minI (W.map (costC xs ys)) = some (labP xs ys none (0, 0)) := by
  obtain ⟨k, hk⟩ := minI_some (l := W.map (costC xs ys)) (fun z => h.ne (List.map_eq_nil_iff.mp z))
  obtain ⟨h1, h2⟩ := minI_spec hk
  obtain ⟨w, hw, e⟩ := List.mem_map.mp h1
  have h3 := labP_walk (wide := none) (fun _ => none_w) h.x h.y (h.is hw)
  obtain ⟨w', hw', e'⟩ := labP_has (wide := none) (fun _ => none_w) h.x h.y
  have h4 := h2 _ (List.mem_map.mpr ⟨w', (h.wks.is w').mpr hw', rfl⟩)
  rw [hk, show k = labP xs ys none (0, 0) by omega]
theorem Lap.cnt (h : Lap xs ys W) : cntP xs.length ys.length (0, 0) = (W.length : Int) := by
  unfold cntP
  rw [h.p.length_eq]
theorem Lap.cntL (h : Lap xs ys W) : cntLP xs ys (0, 0) = (((W.map (costC xs ys)).filter fun c => decide (c = labP xs ys none (0, 0))).length : Int) := by
  have e : cntLP xs ys (0, 0) = (((walksP xs.length ys.length none (0, 0)).filter fun w => decide (costC xs ys w = labP xs ys none (0, 0))).length : Int) := rfl
  rw [e, ← (h.p.filter _).length_eq, List.filter_map, List.length_map]
  rfl
theorem Lap.walk_b (h : Lap xs ys W) {w : List Pl} (hw : Walk xs.length ys.length none w) : w.length ≤ 7 ∧ 1 ≤ w.length ∧ (∀ p ∈ w, p.1 < 1000 ∧ p.2 < 1000) := by
  have := walk_len hw h.x.lo h.y.lo
  have := h.x4
  have := h.y4
  exact ⟨by omega, by omega, (walk_small hw h.x h.y).1⟩
theorem Lap.cost_small (h : Lap xs ys W) {w : List Pl} (hw : Walk xs.length ys.length none w) : (costC xs ys w).natAbs < 10 ^ 12 := by
  have := cost_b h.x h.y w
  have := (h.walk_b hw).1
  have : (10 : Nat) ^ 12 = 1000000000000 := by decide
  omega
theorem Lap.lab_small (h : Lap xs ys W) : (labP xs ys none (0, 0)).natAbs < 10 ^ 12 := by
  have := lab_b h.x h.y (p := (0, 0)) h.x.lo h.y.lo
  have : (10 : Nat) ^ 12 = 1000000000000 := by decide
  omega
theorem p25 : (10 : Nat) ^ 12 < 10 ^ 25 := by decide

variable {r0 r1 r2 r3 r4 r5 r6 r7 r8 r9 r10 r11 r12 r13 r14 r15 r16 r17 : Option D}
theorem lr_c0 (h : Lap xs ys W) (hη : Pu η) : _law_right_c0 [some (.ref i), r1, some (serD xs), some (serD ys), some (.lst (W.map walkD)), r5, r6, r7, r8, r9, r10, r11, r12, r13, r14, r15, r16, r17] η = .ok (.lst ((W.map (costC xs ys)).map .int)) η := by
  rw [List.map_map]
  refine fLc_all walkD (fun w => .int (costC xs ys w)) W (by simp -implicitDefEqProofs) (by have := h.l; rw [sizeLine_eq]; omega) fun w hw => ⟨_, rfl, ?_⟩
  have hw := h.is hw
  have wb := h.walk_b hw
  have := law_walk_cost_ok (xs := xs) (ys := ys) (w := w) hη (walk_inG hw h.x h.y) (by omega)
  simp -implicitDefEqProofs [-List.map_map, _law_right_e0, this]
theorem lr_s3 (h : Lap xs ys W) (hη : Pu η) : _law_right_s3 [some (.ref i), r1, some (serD xs), some (serD ys), some (.lst (W.map walkD)), some (.lst ((W.map (costC xs ys)).map .int)), r6, r7, r8, r9, r10, r11, r12, r13, r14, r15, r16, r17] η = .nx [some (.ref i), r1, some (serD xs), some (serD ys), some (.lst (W.map walkD)), some (.lst ((W.map (costC xs ys)).map .int)), r6, r7, r8, r9, r10, r11, r12, r13, r14, r15, r16, r17] η := by
  have hm := how_many_walks_ok hη h.x h.y
  rw [h.cnt] at hm
  obtain ⟨s, hs⟩ := repr_int (k := (W.length : Int)) (by have := h.l; have : (10 : Nat) ^ 25 = 10000000000000000000000000 := by decide
                                                         omega)
  have hs := hs η
  have hl : dLen η [.lst (W.map walkD)] = some (.int W.length) := by rw [len_lst, List.length_map]
  generalize (W.length : Int) = k at *
  generalize D.lst (W.map walkD) = wl at *
  simp -implicitDefEqProofs [-List.map_map, _law_right_s3, hm, hl, hs]
theorem lr_s4 (h : Lap xs ys W) (hη : Pu η) : _law_right_s4 [some (.ref i), r1, some (serD xs), some (serD ys), some (.lst (W.map walkD)), some (.lst ((W.map (costC xs ys)).map .int)), r6, r7, r8, r9, r10, r11, r12, r13, r14, r15, r16, r17] η = .nx [some (.ref i), r1, some (serD xs), some (serD ys), some (.lst (W.map walkD)), some (.lst ((W.map (costC xs ys)).map .int)), r6, r7, r8, r9, r10, r11, r12, r13, r14, r15, r16, r17] η := by
  have hm := how_many_least_ok hη h.x h.y
  have mn := min_ints (η := η) (l := W.map (costC xs ys))
  rw [h.min] at mn
  have mn : dMin η [(.lst ((W.map (costC xs ys)).map .int))] = some (.int (labP xs ys none (0, 0))) := mn
  have c1 : _law_right_c1 [some (.ref i), r1, some (serD xs), some (serD ys), some (.lst (W.map walkD)), some (.lst ((W.map (costC xs ys)).map .int)), r6, r7, r8, r9, r10, r11, r12, r13, r14, r15, r16, r17] η = .ok (.lst (((W.map (costC xs ys)).filter fun c => decide (c = labP xs ys none (0, 0))).map fun _ => .int 1)) η := by
    have h5 : fits [D.int 1] = true := fits1
    refine fLc_list D.int (fun c => decide (c = labP xs ys none (0, 0))) (fun _ => .int 1) (W.map (costC xs ys)) rfl (by have := h.l; rw [List.length_map, sizeLine_eq]; omega) fun c _ => ⟨_, rfl, ?_, fun _ => rfl⟩
    generalize D.lst ((W.map (costC xs ys)).map .int) = cl at *
    simp -implicitDefEqProofs [-List.map_map, _law_right_t0, mn]
  have hl : dLen η [.lst (((W.map (costC xs ys)).filter fun c => decide (c = labP xs ys none (0, 0))).map fun _ => .int 1)] = some (.int (cntLP xs ys (0, 0))) := by
    rw [len_lst, List.length_map, h.cntL]
  obtain ⟨s, hs⟩ := repr_int (k := cntLP xs ys (0, 0)) (by
    have := h.l
    have e := h.cntL
    have := List.length_filter_le (fun c => decide (c = labP xs ys none (0, 0))) (W.map (costC xs ys))
    rw [List.length_map] at this
    have : (10 : Nat) ^ 25 = 10000000000000000000000000 := by decide
    omega)
  have hs := hs η
  generalize D.lst (((W.map (costC xs ys)).filter fun c => decide (c = labP xs ys none (0, 0))).map fun _ => .int 1) = ol at *
  generalize cntLP xs ys (0, 0) = k at *
  simp -implicitDefEqProofs [-List.map_map, _law_right_s4, hm, c1, hl, hs]
theorem lr_s5 {b : Nat} (h : Lap xs ys W) (hη : Pu η) (hp : Pot η i b) (hb : b < 900000) : ∃ w η', w ∈ W ∧ _law_right_s5 [some (.ref i), r1, some (serD xs), some (serD ys), some (.lst (W.map walkD)), some (.lst ((W.map (costC xs ys)).map .int)), r6, r7, r8, r9, r10, r11, r12, r13, r14, r15, r16, r17] η = .nx [some (.ref i), r1, some (serD xs), some (serD ys), some (.lst (W.map walkD)), some (.lst ((W.map (costC xs ys)).map .int)), some (walkD w), r7, r8, r9, r10, r11, r12, r13, r14, r15, r16, r17] η' ∧ Pu η' ∧ Pot η' i (b + 1) ∧ Same i η η' := by
  obtain ⟨d, η', e, hd, h1, h2, h3⟩ := of_ok (xs := W.map walkD) hη hp (by omega) (by simpa using h.ne) (by rw [List.length_map]; have := h.l; omega) (walks_pure W)
  obtain ⟨w, hw, rfl⟩ := List.mem_map.mp hd
  refine ⟨w, η', hw, ?_, h1, h2, h3⟩
  generalize D.lst (W.map walkD) = wl at *
  simp -implicitDefEqProofs [-List.map_map, _law_right_s5, e]
theorem lr_s6 (h : Lap xs ys W) (hη : Pu η) (hw : w ∈ W) : _law_right_s6 [some (.ref i), r1, some (serD xs), some (serD ys), some (.lst (W.map walkD)), some (.lst ((W.map (costC xs ys)).map .int)), some (walkD w), r7, r8, r9, r10, r11, r12, r13, r14, r15, r16, r17] η = .nx [some (.ref i), r1, some (serD xs), some (serD ys), some (.lst (W.map walkD)), some (.lst ((W.map (costC xs ys)).map .int)), some (walkD w), r7, r8, r9, r10, r11, r12, r13, r14, r15, r16, r17] η := by
  have hw := h.is hw
  have wb := h.walk_b hw
  have c1 := cost_of_walk_ok hη h.x h.y hw
  have c2 := law_walk_cost_ok (xs := xs) (ys := ys) (w := w) hη (walk_inG hw h.x h.y) (by omega)
  obtain ⟨s, hs⟩ := repr_int (Nat.lt_trans (h.cost_small hw) p25)
  have hs := hs η
  simp -implicitDefEqProofs [-List.map_map, _law_right_s6, c1, c2, hs]
/-- so many bent ones -/
theorem bents_ok {b n k : Nat} {d : D} {ρ : Ev} (hη : Pu η) (hp : Pot η i b) (hb : b < 900000) (hn : n ≤ 5) (hd : InB 6 d) (hdw : d.wt ≤ 4000) (h0 : ρ[0]? = some (some (.ref i))) (hk : ρ[k]? = some (some d)) (hk9 : k ≠ 9) (hl : ρ.length = 18) :
    ∃ ds η', fLc (fRg itRg1 (fCons (fC (.int n)) fNil)) (gN 9) fYes (fCa 2 (φ__law_bent 6) (fCons (fVar 0) (fCons (fVar k) fNil))) [9] ρ η = .ok (.lst ds) η' ∧ ds.length = n ∧ (∀ y ∈ ds, Top y) ∧ Pu η' ∧ Pot η' i (b + 12 * n) ∧ Same i η η' := by
  have hit : (fRg itRg1 (fCons (fC (.int n)) fNil)) ρ η = .ok (itF ((List.range n).map fun j => D.int (j : Nat))) η := by
    simp -implicitDefEqProofs [-List.map_map, it_up (n := n) (by omega)]
  obtain ⟨ys, η', e, l, q, p1, q1, s1⟩ := fLc_inv (g := gN 9) (te := fCa 2 (φ__law_bent 6) (fCons (fVar 0) (fCons (fVar k) fNil))) (vs := [9]) (fun m η' => Pu η' ∧ Pot η' i (b + 12 * m) ∧ Same i η η') Top _ hit (by rw [List.length_map, List.length_range, sizeLine_eq]; omega) ⟨hη, hp, .refl⟩ (fun d' _ m η1 hm ⟨p1, q1, s1⟩ => by
    rw [List.length_map, List.length_range] at hm
    obtain ⟨y, η2, e, hn, p2, q2, s2⟩ := bent_ok 6 d η1 i (b + 12 * m) hd p1 q1 (by omega)
    refine ⟨(wipeD ρ [9]).set 9 (some d'), y, η2, rfl, ?_, .inl (hn.mono ?_ (by decide)), p2, q2.mono (by omega), s1.trans s2⟩
    · have g0 : ((wipeD ρ [9]).set 9 (some d'))[0]? = some (some (.ref i)) := by
        rw [List.getElem?_set_ne (by decide)]
        show (ρ.set 9 none)[0]? = _
        rw [List.getElem?_set_ne (by decide), h0]
      have gk : ((wipeD ρ [9]).set 9 (some d'))[k]? = some (some d) := by
        rw [List.getElem?_set_ne (Ne.symm hk9)]
        show (ρ.set 9 none)[k]? = _
        rw [List.getElem?_set_ne (Ne.symm hk9), hk]
      generalize (wipeD ρ [9]).set 9 (some d') = ρ' at *
      simp -implicitDefEqProofs [-List.map_map, g0, gk, e]
    · show 6 * (2 * d.wt + 300) ≤ 100000
      omega)
  rw [List.length_map, List.length_range] at l q1
  exact ⟨ys, η', e, l, q, p1, q1, s1⟩
theorem inb_up {k : Nat} {d : D} (h : InB k d) : ∀ m, InB (k + m) d
  | 0 => h
  | m + 1 => (inb_up h m).succ
theorem inb_ints {l : List Int} (hl : l.length ≤ 1000) (h : ∀ x ∈ l, x.natAbs < 10 ^ 12) : InB 2 (.tup (l.map .int)) :=
  .inr (.inr ⟨_, rfl, by rw [List.length_map]; exact hl, fun x hx => by
    obtain ⟨z, hz, rfl⟩ := List.mem_map.mp hx
    exact .inl ⟨z, rfl, h z hz⟩⟩)
theorem inb_walk (hl : w.length ≤ 1000) (h : ∀ p ∈ w, p.1 < 1000 ∧ p.2 < 1000) : InB 3 (walkD w) :=
  .inr (.inr ⟨_, rfl, by rw [List.length_map]; exact hl, fun x hx => by
    obtain ⟨p, hp, rfl⟩ := List.mem_map.mp hx
    obtain ⟨a, b⟩ := h p hp
    have : (10 : Nat) ^ 12 = 1000000000000 := by decide
    refine inb_ints (l := [(p.1 : Int), (p.2 : Int)]) (by simp) fun z hz => ?_
    simp only [List.mem_cons, List.not_mem_nil, or_false] at hz
    rcases hz with rfl | rfl <;> omega⟩)
theorem top_of {n k : Nat} {d : D} (h : Nice n k d) (h1 : n ≤ 100000) (h2 : k ≤ 30) : Top d := .inl (h.mono h1 h2)

theorem lr_c3 (h : Lap xs ys W) : _law_right_c3 [some (.ref i), r1, some (serD xs), some (serD ys), some (.lst (W.map walkD)), r5, r6, r7, r8, r9, r10, r11, r12, r13, r14, r15, r16, r17] η = .ok (.lst ((W.map walkS).map .str)) η := by
  rw [List.map_map]
  exact fLc_all walkD (fun w => .str (walkS w)) W (by simp -implicitDefEqProofs) (by have := h.l; rw [sizeLine_eq]; omega) fun w hw => ⟨_, rfl, by
    simp -implicitDefEqProofs [-List.map_map, _law_right_e3, texts_ok (η := η) h.x h.y h.wks w hw]⟩
theorem lr_b0 {v : D} (h : Lap xs ys W) (hη : Pu η) (hv : Top v) : _law_right_b0 [some (.ref i), r1, some (serD xs), some (serD ys), some (.lst (W.map walkD)), some (.lst ((W.map (costC xs ys)).map .int)), some (walkD w), r7, some v, r9, r10, r11, r12, r13, r14, r15, r16, r17] η = .nx [some (.ref i), r1, some (serD xs), some (serD ys), some (.lst (W.map walkD)), some (.lst ((W.map (costC xs ys)).map .int)), some (walkD w), r7, some v, r9, r10, r11, r12, r13, r14, r15, r16, r17] η := by
  have iw := is_walk_ok hη h.x h.y hv.deep
  obtain ⟨s, h1, h2⟩ := repr_top (η := η) hv
  have i1 := in_strs (η := η) (s := s) (l := W.map walkS)
  rw [is_in_walks h.wks h2] at i1
  have c3 := lr_c3 (η := η) (i := i) (r1 := r1) (r5 := some (.lst ((W.map (costC xs ys)).map .int))) (r6 := some (walkD w)) (r7 := r7) (r8 := some v) (r9 := r9) (r10 := r10) (r11 := r11) (r12 := r12) (r13 := r13) (r14 := r14) (r15 := r15) (r16 := r16) (r17 := r17) h
  have ib := is_bool_ok (η := η) (a := isWalkB xs ys v) (b := isWalkB xs ys v) hη
  rw [decide_eq_true rfl] at ib
  generalize (W.map walkS).map D.str = sl at *
  generalize isWalkB xs ys v = bv at *
  simp -implicitDefEqProofs [-List.map_map, _law_right_b0, iw, h1, c3, i1, ib]
theorem lr_l0 {b : Nat} (h : Lap xs ys W) (hη : Pu η) (hp : Pot η i b) (hb : b < 800000) (hw : w ∈ W) : ∃ r8' η', _law_right_l0 [some (.ref i), r1, some (serD xs), some (serD ys), some (.lst (W.map walkD)), some (.lst ((W.map (costC xs ys)).map .int)), some (walkD w), r7, r8, r9, r10, r11, r12, r13, r14, r15, r16, r17] η = .nx [some (.ref i), r1, some (serD xs), some (serD ys), some (.lst (W.map walkD)), some (.lst ((W.map (costC xs ys)).map .int)), some (walkD w), r7, r8', r9, r10, r11, r12, r13, r14, r15, r16, r17] η' ∧ Pu η' ∧ Pot η' i (b + 100) ∧ Same i η η' := by
  have hw := h.is hw
  have wb := h.walk_b hw
  have nw := walk_nice wb.2.2
  obtain ⟨od, η1, e1, to, p1, q1, s1⟩ := odd_ok hη hp (by omega)
  obtain ⟨ds, η2, e2, l2, t2, p2, q2, s2⟩ := bents_ok (n := 3) (k := 6) (d := walkD w) (ρ := [some (.ref i), r1, some (serD xs), some (serD ys), some (.lst (W.map walkD)), some (.lst ((W.map (costC xs ys)).map .int)), some (walkD w), r7, r8, r9, r10, r11, r12, r13, r14, r15, r16, r17]) p1 q1 (by omega) (by decide) (inb_up (inb_walk (by omega) wb.2.2) 3) (by have := nw.wt; omega) rfl rfl (by decide) rfl
  have e2 : _law_right_c2 [some (.ref i), r1, some (serD xs), some (serD ys), some (.lst (W.map walkD)), some (.lst ((W.map (costC xs ys)).map .int)), some (walkD w), r7, r8, r9, r10, r11, r12, r13, r14, r15, r16, r17] η1 = .ok (.lst ds) η2 := e2
  have npl : NiceL (w.length * 203) 1 (w.map plD) := places_nice wb.2.2
  have tops : ∀ d ∈ [walkD w, .lst (w.map plD), .tup (cutD (w.map plD) (some 1) none), .non, od] ++ ds, Top d := fun d hd => by
    rcases List.mem_append.mp hd with hd | hd
    · simp only [List.mem_cons, List.not_mem_nil, or_false] at hd
      rcases hd with rfl | rfl | rfl | rfl | rfl
      · exact top_of nw (by omega) (by decide)
      · exact top_of (Nice.lst npl) (by omega) (by decide)
      · exact top_of (Nice.tup npl.cut) (by omega) (by decide)
      · exact .inl non_nice
      · exact to
    · exact t2 d hd
  have F := forL_inv (g := gN 8) (b := _law_right_b0) (fun l ρ η' => (∀ d ∈ l, Top d) ∧ η' = η2 ∧ ∃ r8, ρ = [some (.ref i), r1, some (serD xs), some (serD ys), some (.lst (W.map walkD)), some (.lst ((W.map (costC xs ys)).map .int)), some (walkD w), r7, r8, r9, r10, r11, r12, r13, r14, r15, r16, r17]) ([walkD w, .lst (w.map plD), .tup (cutD (w.map plD) (some 1) none), .non, od] ++ ds) [some (.ref i), r1, some (serD xs), some (serD ys), some (.lst (W.map walkD)), some (.lst ((W.map (costC xs ys)).map .int)), some (walkD w), r7, r8, r9, r10, r11, r12, r13, r14, r15, r16, r17] η2 ⟨tops, rfl, _, rfl⟩ (fun d l ρ η' ⟨hT, hη', r8, hρ⟩ => by
    subst hρ hη'
    refine ⟨_, _, rfl, _, _, .inl (lr_b0 (v := d) h p2 (hT d List.mem_cons_self)), fun x hx => hT x (List.mem_cons_of_mem _ hx), rfl, _, rfl⟩)
  obtain ⟨ρ', η', e, _, hE, r8', rfl⟩ := F
  rw [hE] at e
  refine ⟨r8', η2, ?_, p2, q2.mono (by omega), s1.trans s2⟩
  refine (sFor_eq (η1 := η2) ?_).trans e
  have dl : dList η [walkD w] = some (.lst (w.map plD)) := rfl
  have ds1 : dSl η (walkD w) (some 1) none = some (.tup (cutD (w.map plD) (some 1) none)) := rfl
  have ad := add_lst (η := η2) (a := [walkD w, .lst (w.map plD), .tup (cutD (w.map plD) (some 1) none), .non, od]) (b := ds) (by rw [l2]; simp)
  generalize walkD w = wd at *
  generalize D.lst (w.map plD) = wl at *
  generalize D.tup (cutD (w.map plD) (some 1) none) = wt at *
  simp -implicitDefEqProofs [-List.map_map, dl, ds1, e1, e2, ad]
end
end K71
set_option Elab.async false
set_option linter.all false
set_option maxRecDepth 100000
set_option maxHeartbeats 2000000
namespace Dn
open PySem PySem.Spec PyProof.Rows L2
theorem add_ref {η : Store} {L : Nat} {a b : List D} (hL : η[L]? = some (.l a)) (h : a.length + b.length ≤ 1000000) : dAdd η (.ref L) (.lst b) = some (.lst (a ++ b)) := by
  have e : dAdd η (.ref L) (.lst b) = (match lstOf η (.ref L), lstOf η (.lst b) with
    | some a, some b => if a.length + b.length ≤ sizeLine then some (D.lst (a ++ b)) else none
    | _, _ => none) := rfl
  rw [e, lst_ref hL]
  show (if a.length + b.length ≤ sizeLine then some (D.lst (a ++ b)) else none) = _
  rw [if_pos (by rw [sizeLine_eq]; omega)]
end Dn
namespace K71
open PySem PySem.Spec PyProof.Rows L2 Dn
section
variable {xs ys : List Int} {W : List (List Pl)} {w v : List Pl} {η : Store} {i : Nat}
variable {r0 r1 r2 r3 r4 r5 r6 r7 r8 r9 r10 r11 r12 r13 r14 r15 r16 r17 : Option D}
theorem ints_nice : ∀ {l : List Int}, (∀ x ∈ l, x.natAbs < 10 ^ 25) → NiceL (101 * l.length) 0 (l.map .int)
  | [], _ => nil_nice
  | x :: l, h => by
    have ih := ints_nice fun y hy => h y (List.mem_cons_of_mem _ hy)
    have hx : Nice 100 0 (.int x) := ⟨decide_eq_true (h x List.mem_cons_self), Nat.le_refl _, Nat.zero_le _⟩
    have := (NiceL.one hx).append ih
    exact this.mono (by rw [List.length_cons]; omega) (Nat.le_refl _)
theorem rows_nice {m : Nat} : ∀ {R : List (List Int)}, (∀ r ∈ R, r.length = m ∧ ∀ x ∈ r, 0 ≤ x ∧ x ≤ 1000000000) → NiceL (R.length * (101 * m + 1)) 1 (R.map rowD)
  | [], _ => nil_nice
  | r :: R, h => by
    have ih := rows_nice fun y hy => h y (List.mem_cons_of_mem _ hy)
    obtain ⟨h1, h2⟩ := h r List.mem_cons_self
    have hr : Nice (101 * m) 1 (rowD r) := by
      have e25 : (10 : Nat) ^ 25 = 10000000000000000000000000 := by decide
      have := ints_nice (l := r) fun x hx => by have := h2 x hx; omega
      rw [h1] at this
      exact Nice.tup this
    have := (NiceL.one hr).append ih
    exact this.mono (by rw [List.length_cons, Nat.add_mul, Nat.one_mul]; omega) (Nat.le_refl _)
def toldD (xs ys : List Int) (v : List Pl) : D := .tup [.str "walk", .int (labP xs ys none (0, 0)), walkD v, rowsD xs ys]
theorem Lap.rows (h : Lap xs ys W) : NiceL 1620 1 ((rows0 xs ys).map rowD) := by
  have hr := rows0_ok h.x h.y
  have := rows_nice (m := ys.length) hr.m
  refine this.mono ?_ (Nat.le_refl _)
  rw [hr.n]
  have h1 := h.x4
  have h2 := h.y4
  have : xs.length * (101 * ys.length + 1) ≤ 4 * (101 * 4 + 1) := Nat.mul_le_mul h1 (by omega)
  omega
theorem Lap.told (h : Lap xs ys W) (hv : Walk xs.length ys.length none v) : NiceL 3400 3 [.str "walk", .int (labP xs ys none (0, 0)), walkD v, rowsD xs ys] := by
  have e25 : (10 : Nat) ^ 12 < 10 ^ 25 := by decide
  have n1 : Nice 4 0 (.str "walk") := ⟨by decide, by decide, by decide⟩
  have n2 : Nice 100 0 (.int (labP xs ys none (0, 0))) := ⟨decide_eq_true (Nat.lt_trans h.lab_small e25), Nat.le_refl _, Nat.le_refl _⟩
  have wb := h.walk_b hv
  have n3 := walk_nice wb.2.2
  have n4 : Nice 1620 2 (rowsD xs ys) := by
    rw [rows0_D]
    exact Nice.tup h.rows
  have := (NiceL.one (n1.mono (Nat.le_refl _) (show 0 ≤ 3 by decide))).append ((NiceL.one (n2.mono (Nat.le_refl _) (show 0 ≤ 3 by decide))).append ((NiceL.one (n3.mono (Nat.le_refl _) (show 2 ≤ 3 by decide))).append (NiceL.one (n4.mono (Nat.le_refl _) (show 2 ≤ 3 by decide)))))
  exact this.mono (by omega) (Nat.le_refl _)
theorem Lap.toldT (h : Lap xs ys W) (hv : Walk xs.length ys.length none v) : Nice 3400 4 (toldD xs ys v) := Nice.tup (h.told hv)
theorem Lap.toldI (h : Lap xs ys W) (hv : Walk xs.length ys.length none v) : InB 4 (toldD xs ys v) := by
  have wb := h.walk_b hv
  refine .inr (.inr ⟨_, rfl, by simp, fun x hx => ?_⟩)
  simp only [List.mem_cons, List.not_mem_nil, or_false] at hx
  rcases hx with rfl | rfl | rfl | rfl
  · exact .inr (.inl rfl)
  · exact .inl ⟨_, rfl, h.lab_small⟩
  · exact inb_walk (by omega) wb.2.2
  · rw [rows0_D]
    have hr := rows0_ok h.x h.y
    refine .inr (.inr ⟨_, rfl, by rw [List.length_map, hr.n]; have := h.x4; omega, fun x hx => ?_⟩)
    obtain ⟨r, hr', rfl⟩ := List.mem_map.mp hx
    obtain ⟨h1, h2⟩ := hr.m r hr'
    have e12 : (10 : Nat) ^ 12 = 1000000000000 := by decide
    exact inb_ints (by have := h.y4; omega) fun x hx => by have := h2 x hx; omega
theorem Lap.mn (h : Lap xs ys W) : dMin η [.lst ((W.map (costC xs ys)).map .int)] = some (.int (labP xs ys none (0, 0))) := by
  rw [min_ints, h.min]
  rfl
theorem lr_s8 (h : Lap xs ys W) (hη : Pu η) : ∃ v, Walk xs.length ys.length none v ∧ costC xs ys v = labP xs ys none (0, 0) ∧ _law_right_s8 [some (.ref i), r1, some (serD xs), some (serD ys), some (.lst (W.map walkD)), some (.lst ((W.map (costC xs ys)).map .int)), some (walkD w), r7, r8, r9, r10, r11, r12, r13, r14, r15, r16, r17] η = .nx [some (.ref i), r1, some (serD xs), some (serD ys), some (.lst (W.map walkD)), some (.lst ((W.map (costC xs ys)).map .int)), some (walkD w), r7, r8, r9, r10, some (toldD xs ys v), r12, r13, r14, r15, r16, r17] η := by
  obtain ⟨v, hv, hc, e⟩ := least_walk_ok hη h.x h.y
  refine ⟨v, hv, hc, ?_⟩
  have e : φ_least_walk [serD xs, serD ys] η = .ok (toldD xs ys v) η := e
  generalize toldD xs ys v = t at *
  simp -implicitDefEqProofs [-List.map_map, _law_right_s8, e]
theorem lr_s9 (h : Lap xs ys W) (hη : Pu η) (hv : Walk xs.length ys.length none v) (hc : costC xs ys v = labP xs ys none (0, 0)) : _law_right_s9 [some (.ref i), r1, some (serD xs), some (serD ys), some (.lst (W.map walkD)), some (.lst ((W.map (costC xs ys)).map .int)), some (walkD w), r7, r8, r9, r10, some (toldD xs ys v), r12, r13, r14, r15, r16, r17] η = .nx [some (.ref i), r1, some (serD xs), some (serD ys), some (.lst (W.map walkD)), some (.lst ((W.map (costC xs ys)).map .int)), some (walkD w), r7, r8, r9, r10, some (toldD xs ys v), r12, r13, r14, r15, r16, r17] η := by
  have du := is_due_ok (v := toldD xs ys v) (least := labP xs ys none (0, 0)) hη h.x h.y h.wks (top_of (h.toldT hv) (by decide) (by decide))
  rw [show dueB xs ys (labP xs ys none (0, 0)) (toldD xs ys v) = true from dueB_iff.mpr (told_due h.x h.y hv hc)] at du
  have mn := h.mn (η := η)
  generalize toldD xs ys v = t at *
  generalize D.lst ((W.map (costC xs ys)).map .int) = cl at *
  generalize D.lst (W.map walkD) = wl at *
  simp -implicitDefEqProofs [-List.map_map, _law_right_s9, du, mn]
/-- what the law asks shows_least_walk of, first -/
def some5 (xs ys : List Int) (v : List Pl) (od : D) : List D := [toldD xs ys v, .tup (cutD [.str "walk", .int (labP xs ys none (0, 0)), walkD v, rowsD xs ys] none (some 3)), .lst [.str "walk", .int (labP xs ys none (0, 0)), walkD v, rowsD xs ys], .non, od]
def bentT (xs ys : List Int) (w : List Pl) : D := .tup [.str "walk", .int (costC xs ys w), walkD w, .tup ([.tup ([.int (costC xs ys w)] ++ cutD ((rowAt (rows0 xs ys) 0).map .int) (some 1) none)] ++ cutD ((rows0 xs ys).map rowD) (some 1) none)]
theorem some5_top {od : D} (h : Lap xs ys W) (hv : Walk xs.length ys.length none v) (to : Top od) : ∀ d ∈ some5 xs ys v od, Top d := fun d hd => by
  unfold some5 at hd
  simp only [List.mem_cons, List.not_mem_nil, or_false] at hd
  rcases hd with rfl | rfl | rfl | rfl | rfl
  · exact top_of (h.toldT hv) (by decide) (by decide)
  · exact top_of (Nice.tup (h.told hv).cut) (by decide) (by decide)
  · exact top_of (Nice.lst (h.told hv)) (by decide) (by decide)
  · exact .inl non_nice
  · exact to
theorem bentT_top (h : Lap xs ys W) (hw : Walk xs.length ys.length none w) : Top (bentT xs ys w) := by
  have e25 : (10 : Nat) ^ 12 < 10 ^ 25 := by decide
  have wb := h.walk_b hw
  have n1 : Nice 4 0 (.str "walk") := ⟨by decide, by decide, by decide⟩
  have n2 : Nice 100 0 (.int (costC xs ys w)) := ⟨decide_eq_true (Nat.lt_trans (h.cost_small hw) e25), Nat.le_refl _, Nat.le_refl _⟩
  have n3 := walk_nice wb.2.2
  have hr := rows0_ok h.x h.y
  have hrow : NiceL 404 0 ((rowAt (rows0 xs ys) 0).map .int) := by
    have hl := hr.row (i := 0) h.x.lo
    have hm : ∀ x ∈ rowAt (rows0 xs ys) 0, 0 ≤ x ∧ x ≤ 1000000000 := by
      have h0 : 0 < (rows0 xs ys).length := by rw [hr.n]; exact h.x.lo
      have : rowAt (rows0 xs ys) 0 = (rows0 xs ys)[0] := by unfold rowAt; simp [List.getD, List.getElem?_eq_getElem h0]
      rw [this]
      exact (hr.m _ (List.getElem_mem h0)).2
    have e25' : (10 : Nat) ^ 25 = 10000000000000000000000000 := by decide
    have := ints_nice (l := rowAt (rows0 xs ys) 0) fun x hx => by have := hm x hx; omega
    refine this.mono ?_ (Nat.le_refl _)
    rw [hl]
    have := h.y4
    omega
  have n4 := Nice.tup ((NiceL.one n2).append (hrow.cut (lo := some 1) (hi := none)))
  have n5 := Nice.tup ((NiceL.one (n4.mono (Nat.le_refl _) (show 1 ≤ 1 by decide))).append (h.rows.cut (lo := some 1) (hi := none)))
  have := (NiceL.one (n1.mono (Nat.le_refl _) (show 0 ≤ 3 by decide))).append ((NiceL.one (n2.mono (Nat.le_refl _) (show 0 ≤ 3 by decide))).append ((NiceL.one (n3.mono (Nat.le_refl _) (show 2 ≤ 3 by decide))).append (NiceL.one (n5.mono (Nat.le_refl _) (show 2 ≤ 3 by decide)))))
  exact top_of (Nice.tup this) (by omega) (by decide)
theorem lr_s10 {b : Nat} (h : Lap xs ys W) (hη : Pu η) (hp : Pot η i b) (hb : b < 800000) (hw : w ∈ W) (hv : Walk xs.length ys.length none v) : ∃ od η', Top od ∧ _law_right_s10 [some (.ref i), r1, some (serD xs), some (serD ys), some (.lst (W.map walkD)), some (.lst ((W.map (costC xs ys)).map .int)), some (walkD w), r7, r8, r9, r10, some (toldD xs ys v), r12, r13, r14, r15, r16, r17] η = .nx [some (.ref i), r1, some (serD xs), some (serD ys), some (.lst (W.map walkD)), some (.lst ((W.map (costC xs ys)).map .int)), some (walkD w), some (.int (costC xs ys w)), r8, r9, r10, some (toldD xs ys v), some (.ref η'.length), r13, r14, r15, r16, r17] (η' ++ [.l (some5 xs ys v od)]) ∧ Pu η' ∧ Pot η' i (b + 1) ∧ Same i η η' := by
  have hw := h.is hw
  have wb := h.walk_b hw
  obtain ⟨od, η1, e1, to, p1, q1, s1⟩ := odd_ok hη hp (by omega)
  refine ⟨od, η1, to, ?_, p1, q1, s1⟩
  have d1 : dSl η (toldD xs ys v) none (some 3) = some (.tup (cutD [.str "walk", .int (labP xs ys none (0, 0)), walkD v, rowsD xs ys] none (some 3))) := rfl
  have d2 : dList η [toldD xs ys v] = some (.lst [.str "walk", .int (labP xs ys none (0, 0)), walkD v, rowsD xs ys]) := rfl
  have hpu : D.pures (some5 xs ys v od) = true := deeps_pure _ (deeps_of fun x hx => (some5_top h hv to x hx).deep)
  have cw : φ__law_walk_cost [serD xs, serD ys, walkD w] (η1 ++ [.l (some5 xs ys v od)]) = .ok (.int (costC xs ys w)) (η1 ++ [.l (some5 xs ys v od)]) := law_walk_cost_ok (xs := xs) (ys := ys) (w := w) (pu_app p1 (by simp [M.pure, hpu])) (walk_inG hw h.x h.y) (by omega)
  unfold some5 at *
  generalize toldD xs ys v = t at *
  generalize D.tup (cutD [.str "walk", .int (labP xs ys none (0, 0)), walkD v, rowsD xs ys] none (some 3)) = t3 at *
  generalize D.lst [.str "walk", .int (labP xs ys none (0, 0)), walkD v, rowsD xs ys] = t4 at *
  simp -implicitDefEqProofs [-List.map_map, _law_right_s10, d1, d2, e1, cw]
theorem lr_s11 {od : D} {L : Nat} (h : Lap xs ys W) (hL : η[L]? = some (.l (some5 xs ys v od))) : _law_right_s11 [some (.ref i), r1, some (serD xs), some (serD ys), some (.lst (W.map walkD)), some (.lst ((W.map (costC xs ys)).map .int)), some (walkD w), some (.int (costC xs ys w)), r8, r9, r10, some (toldD xs ys v), some (.ref L), r13, r14, r15, r16, r17] η = .nx [some (.ref i), r1, some (serD xs), some (serD ys), some (.lst (W.map walkD)), some (.lst ((W.map (costC xs ys)).map .int)), some (walkD w), some (.int (costC xs ys w)), r8, r9, r10, some (toldD xs ys v), some (.ref L), r13, r14, r15, r16, r17] (η.set L (.l (some5 xs ys v od ++ [bentT xs ys w]))) := by
  have hr := rows0_ok h.x h.y
  have d3 : dIx η (toldD xs ys v) (.int 3) = some (rowsD xs ys) := ixt3
  have d0 : dIx η (rowsD xs ys) (.int 0) = some (rowD (rowAt (rows0 xs ys) 0)) := by
    rw [rows0_D]
    exact ix_row (by rw [hr.n]; exact h.x.lo)
  have s0 : dSl η (rowD (rowAt (rows0 xs ys) 0)) (some 1) none = some (.tup (cutD ((rowAt (rows0 xs ys) 0).map .int) (some 1) none)) := rfl
  have s3 : dSl η (rowsD xs ys) (some 1) none = some (.tup (cutD ((rows0 xs ys).map rowD) (some 1) none)) := by
    rw [rows0_D]
    rfl
  have a0 := add_tup (η := η) (a := [.int (costC xs ys w)]) (b := cutD ((rowAt (rows0 xs ys) 0).map .int) (some 1) none) (by
    have := cut_len (xs := (rowAt (rows0 xs ys) 0).map D.int) (lo := some 1) (hi := none)
    rw [List.length_map, hr.row h.x.lo] at this
    have := h.y4
    rw [List.length_singleton]
    omega)
  have a3 := add_tup (η := η) (a := [.tup ([.int (costC xs ys w)] ++ cutD ((rowAt (rows0 xs ys) 0).map .int) (some 1) none)]) (b := cutD ((rows0 xs ys).map rowD) (some 1) none) (by
    have := cut_len (xs := (rows0 xs ys).map rowD) (lo := some 1) (hi := none)
    rw [List.length_map, hr.n] at this
    have := h.x4
    rw [List.length_singleton]
    omega)
  have ap := app_ref (η := η) (i := L) (xs := some5 xs ys v od) (d := bentT xs ys w) hL (by unfold some5; simp)
  have ty := ty_ref hL
  unfold bentT at *
  generalize rowD (rowAt (rows0 xs ys) 0) = rw0 at *
  generalize D.tup ([.int (costC xs ys w)] ++ cutD ((rowAt (rows0 xs ys) 0).map .int) (some 1) none) = u0 at *
  generalize D.tup ([u0] ++ cutD ((rows0 xs ys).map rowD) (some 1) none) = u3 at *
  generalize some5 xs ys v od = s5 at *
  generalize toldD xs ys v = t at *
  generalize walkD w = wd at *
  generalize cutD ((rowAt (rows0 xs ys) 0).map D.int) (some 1) none = c0 at *
  generalize cutD ((rows0 xs ys).map rowD) (some 1) none = c3 at *
  simp only [_law_right_s11, e_sExp, e_Mt, e_var, List.getElem?_cons_succ, List.getElem?_cons_zero, Option.bind_some, id_eq, R.of_some, R.bind_ok, ty, if_true, e_cons, e_nil, e_C, e_tup, e_2, e_sl, e_part, e_noPart, unI_int, Option.map_some, d3, d0, s0, s3, fits1, a0, a3, fits4, ap, R.thn_ok]
theorem lr_b1 {L : Nat} {u : D} (h : Lap xs ys W) (hη : Pu η) (hu : Top u) : ∃ r13', _law_right_b1 [some (.ref i), r1, some (serD xs), some (serD ys), some (.lst (W.map walkD)), some (.lst ((W.map (costC xs ys)).map .int)), some (walkD w), some (.int (costC xs ys w)), some u, r9, r10, some (toldD xs ys v), some (.ref L), r13, r14, r15, r16, r17] η = .nx [some (.ref i), r1, some (serD xs), some (serD ys), some (.lst (W.map walkD)), some (.lst ((W.map (costC xs ys)).map .int)), some (walkD w), some (.int (costC xs ys w)), some u, r9, r10, some (toldD xs ys v), some (.ref L), r13', r14, r15, r16, r17] η := by
  have du := is_due_ok (v := u) (least := labP xs ys none (0, 0)) hη h.x h.y h.wks hu
  have sh := shows_ok (v := u) hη h.x h.y hu.deep
  rw [shows_due h.x h.y] at sh
  have mn := h.mn (η := η)
  have ib := is_bool_ok (η := η) (a := dueB xs ys (labP xs ys none (0, 0)) u) (b := dueB xs ys (labP xs ys none (0, 0)) u) hη
  rw [decide_eq_true rfl] at ib
  refine ⟨some (.bl (dueB xs ys (labP xs ys none (0, 0)) u)), ?_⟩
  generalize dueB xs ys (labP xs ys none (0, 0)) u = bd at *
  generalize D.lst ((W.map (costC xs ys)).map .int) = cl at *
  generalize D.lst (W.map walkD) = wl at *
  simp -implicitDefEqProofs [-List.map_map, _law_right_b1, e_sSeq, du, mn, sh, ib]
theorem lr_l1 {b L : Nat} {V : List D} (h : Lap xs ys W) (hη : Pu η) (hp : Pot η i b) (hb : b < 800000) (hL : η[L]? = some (.l V)) (hLi : L ≠ i) (hV : ∀ d ∈ V, Top d) (hVl : V.length ≤ 10) (hv : Walk xs.length ys.length none v) :
    ∃ r8' r13' η', _law_right_l1 [some (.ref i), r1, some (serD xs), some (serD ys), some (.lst (W.map walkD)), some (.lst ((W.map (costC xs ys)).map .int)), some (walkD w), some (.int (costC xs ys w)), r8, r9, r10, some (toldD xs ys v), some (.ref L), r13, r14, r15, r16, r17] η = .nx [some (.ref i), r1, some (serD xs), some (serD ys), some (.lst (W.map walkD)), some (.lst ((W.map (costC xs ys)).map .int)), some (walkD w), some (.int (costC xs ys w)), r8', r9, r10, some (toldD xs ys v), some (.ref L), r13', r14, r15, r16, r17] η' ∧ Pu η' ∧ Pot η' i (b + 100) ∧ Same i η η' := by
  obtain ⟨ds, η2, e2, l2, t2, p2, q2, s2⟩ := bents_ok (n := 5) (k := 11) (d := toldD xs ys v) (ρ := [some (.ref i), r1, some (serD xs), some (serD ys), some (.lst (W.map walkD)), some (.lst ((W.map (costC xs ys)).map .int)), some (walkD w), some (.int (costC xs ys w)), r8, r9, r10, some (toldD xs ys v), some (.ref L), r13, r14, r15, r16, r17]) hη hp (by omega) (by decide) (inb_up (h.toldI hv) 2) (by have := (h.toldT hv).wt; omega) rfl rfl (by decide) rfl
  have e2 : _law_right_c4 [some (.ref i), r1, some (serD xs), some (serD ys), some (.lst (W.map walkD)), some (.lst ((W.map (costC xs ys)).map .int)), some (walkD w), some (.int (costC xs ys w)), r8, r9, r10, some (toldD xs ys v), some (.ref L), r13, r14, r15, r16, r17] η = .ok (.lst ds) η2 := e2
  have F := forL_inv (g := gN 8) (b := _law_right_b1) (fun l ρ η' => (∀ d ∈ l, Top d) ∧ η' = η2 ∧ ∃ r8 r13, ρ = [some (.ref i), r1, some (serD xs), some (serD ys), some (.lst (W.map walkD)), some (.lst ((W.map (costC xs ys)).map .int)), some (walkD w), some (.int (costC xs ys w)), r8, r9, r10, some (toldD xs ys v), some (.ref L), r13, r14, r15, r16, r17]) (V ++ ds) [some (.ref i), r1, some (serD xs), some (serD ys), some (.lst (W.map walkD)), some (.lst ((W.map (costC xs ys)).map .int)), some (walkD w), some (.int (costC xs ys w)), r8, r9, r10, some (toldD xs ys v), some (.ref L), r13, r14, r15, r16, r17] η2 ⟨fun d hd => (List.mem_append.mp hd).elim (hV d) (t2 d), rfl, _, _, rfl⟩ (fun d l ρ η' ⟨hT, hη', r8, r13, hρ⟩ => by
    subst hρ hη'
    obtain ⟨r13', e⟩ := lr_b1 (u := d) (L := L) (r1 := r1) (r9 := r9) (r10 := r10) (r13 := r13) (r14 := r14) (r15 := r15) (r16 := r16) (r17 := r17) h p2 (hT d List.mem_cons_self)
    exact ⟨_, _, rfl, _, _, .inl e, fun x hx => hT x (List.mem_cons_of_mem _ hx), rfl, _, _, rfl⟩)
  obtain ⟨ρ', η', e, _, hE, r8', r13', rfl⟩ := F
  rw [hE] at e
  refine ⟨r8', r13', η2, ?_, p2, q2.mono (by omega), s2⟩
  refine (sFor_eq (η1 := η2) ?_).trans e
  have hL2 : η2[L]? = some (.l V) := by rw [s2.off L hLi]; exact hL
  have ad := add_ref (η := η2) (L := L) (a := V) (b := ds) hL2 (by rw [l2]; omega)
  simp -implicitDefEqProofs [-List.map_map, e2, ad]
end
end K71
set_option Elab.async false
set_option linter.all false
set_option maxRecDepth 100000
set_option maxHeartbeats 2000000
namespace K71
open PySem PySem.Spec PyProof.Rows L2 Dn
section
variable {xs ys : List Int} {W : List (List Pl)} {w v u : List Pl} {η : Store} {i : Nat} {k : Int}
variable {r0 r1 r2 r3 r4 r5 r6 r7 r8 r9 r10 r11 r12 r13 r14 r15 r16 r17 : Option D}
theorem lr_s13 {b : Nat} (hη : Pu η) (hp : Pot η i b) (hb : b < 800000) : ∃ k η', 0 ≤ k ∧ k < 4 ∧ _law_right_s13 [some (.ref i), r1, r2, r3, r4, r5, r6, r7, r8, r9, r10, r11, r12, r13, r14, r15, r16, r17] η = .nx [some (.ref i), r1, r2, r3, r4, r5, r6, r7, r8, r9, r10, r11, r12, r13, some (.int k), r15, r16, r17] η' ∧ Pu η' ∧ Pot η' i (b + 1) ∧ Same i η η' := by
  obtain ⟨n, η1, e, n0, n1, p1, q1, s1⟩ := take_ok (upto := 4) hη hp (by omega) (by decide) (by decide)
  exact ⟨n, η1, n0, n1, by simp -implicitDefEqProofs [-List.map_map, _law_right_s13, e], p1, q1, s1⟩
/-- within the band -/
def inW (xs ys : List Int) (k : Int) (w : List Pl) : Bool := decide (farI xs.length ys.length w ≤ k)
theorem lr_s14 (h : Lap xs ys W) (hη : Pu η) : _law_right_s14 [some (.ref i), r1, some (serD xs), some (serD ys), some (.lst (W.map walkD)), some (.lst ((W.map (costC xs ys)).map .int)), r6, r7, r8, r9, r10, r11, r12, r13, some (.int k), r15, r16, r17] η = .nx [some (.ref i), r1, some (serD xs), some (serD ys), some (.lst (W.map walkD)), some (.lst ((W.map (costC xs ys)).map .int)), r6, r7, r8, r9, r10, r11, r12, r13, some (.int k), some (.lst (((W.filter (inW xs ys k)).map (costC xs ys)).map .int)), r16, r17] η := by
  have c5 : _law_right_c5 [some (.ref i), r1, some (serD xs), some (serD ys), some (.lst (W.map walkD)), some (.lst ((W.map (costC xs ys)).map .int)), r6, r7, r8, r9, r10, r11, r12, r13, some (.int k), r15, r16, r17] η = .ok (.lst (((W.filter (inW xs ys k)).map (costC xs ys)).map .int)) η := by
    have hm : ((W.filter (inW xs ys k)).map (costC xs ys)).map D.int = (W.filter (inW xs ys k)).map fun w => D.int (costC xs ys w) := by
      rw [List.map_map]
      rfl
    rw [hm]
    refine fLc_list (fun w => .tup [.int (costC xs ys w), walkD w]) (inW xs ys k) (fun w => .int (costC xs ys w)) W ?_ (by have := h.l; rw [sizeLine_eq]; omega) fun w hw => ⟨[some (.ref i), r1, some (serD xs), some (serD ys), some (.lst (W.map walkD)), some (.lst ((W.map (costC xs ys)).map .int)), r6, some (.int (costC xs ys w)), r8, r9, some (walkD w), r11, r12, r13, some (.int k), r15, r16, r17], by simp -implicitDefEqProofs, ?_, fun _ => by simp -implicitDefEqProofs [-List.map_map, _law_right_e5]⟩
    · have hz : itZip η [.lst ((W.map (costC xs ys)).map .int), .lst (W.map walkD)] = some (itF (W.map fun w => .tup [.int (costC xs ys w), walkD w])) := by
        show some (itF ((((W.map (costC xs ys)).map D.int).zip (W.map walkD)).map fun p => D.tup [p.1, p.2])) = _
        rw [List.map_map, List.zip_map', List.map_map]
        rfl
      generalize D.lst ((W.map (costC xs ys)).map .int) = cl at *
      generalize D.lst (W.map walkD) = wl at *
      simp -implicitDefEqProofs [-List.map_map, hz]
    · have hw := h.is hw
      have wb := h.walk_b hw
      have fa := law_far_ok (xs := xs) (ys := ys) (w := w) hη (by intro z; subst z; simp at wb) (by omega)
      unfold inW
      simp -implicitDefEqProofs [-List.map_map, _law_right_t1, fa]
  generalize D.lst (((W.filter (inW xs ys k)).map (costC xs ys)).map .int) = wi at *
  simp -implicitDefEqProofs [-List.map_map, _law_right_s14, c5]
theorem inW_iff (h : Lap xs ys W) (h0 : 0 ≤ k) {w : List Pl} (hw : w ∈ W) : inW xs ys k w = true ↔ Walk xs.length ys.length (some k) w := by
  have hk : ∀ w, some k = some w → 0 ≤ w := fun w e => by cases e; exact h0
  have hw' := h.is hw
  have wb := h.walk_b hw'
  unfold inW
  rw [decide_eq_true_iff, farI_le h0 (by intro z; subst z; simp at wb), walk_wide (dm0 hk h.x h.y)]
  exact ⟨fun z => ⟨hw', z⟩, fun z => z.2⟩
theorem min_in (h : Lap xs ys W) (h0 : 0 ≤ k) : dMin η [.lst (((W.filter (inW xs ys k)).map (costC xs ys)).map .int)] = some (.int (labP xs ys (some k) (0, 0))) := by
  have hk : ∀ w, some k = some w → 0 ≤ w := fun w e => by cases e; exact h0
  obtain ⟨w, hw, hc⟩ := labP_has hk h.x h.y
  have hwn := ((walk_wide (dm0 hk h.x h.y)).mp hw).1
  have hwW := (h.wks.is w).mpr hwn
  have hmem : costC xs ys w ∈ (W.filter (inW xs ys k)).map (costC xs ys) := List.mem_map.mpr ⟨w, List.mem_filter.mpr ⟨hwW, (inW_iff h h0 hwW).mpr hw⟩, rfl⟩
  obtain ⟨m, hm⟩ := minI_some (l := (W.filter (inW xs ys k)).map (costC xs ys)) (fun z => by rw [z] at hmem; cases hmem)
  obtain ⟨m1, m2⟩ := minI_spec hm
  have h2 := m2 _ hmem
  obtain ⟨w', hw', e⟩ := List.mem_map.mp m1
  obtain ⟨a, b⟩ := List.mem_filter.mp hw'
  have h3 := labP_walk hk h.x h.y ((inW_iff h h0 a).mp b)
  rw [min_ints, hm, show m = labP xs ys (some k) (0, 0) by omega]
  rfl
theorem lr_s15 (h : Lap xs ys W) (hη : Pu η) (h0 : 0 ≤ k) (h4 : k < 4) : ∃ u, Walk xs.length ys.length (some k) u ∧ costC xs ys u = labP xs ys (some k) (0, 0) ∧ _law_right_s15 [r0, r1, some (serD xs), some (serD ys), r4, r5, r6, r7, r8, r9, r10, r11, r12, r13, some (.int k), r15, r16, r17] η = .nx [r0, r1, some (serD xs), some (serD ys), r4, r5, r6, some (.int (labP xs ys (some k) (0, 0))), r8, r9, some (walkD u), r11, r12, r13, some (.int k), r15, r16, r17] η := by
  obtain ⟨u, hu, hc, e⟩ := least_walk_in_band_ok (b := k) hη h.x h.y h0 (by omega)
  exact ⟨u, hu, hc, by simp -implicitDefEqProofs [-List.map_map, _law_right_s15, e]⟩
theorem lr_c6 (h : Lap xs ys W) : _law_right_c6 [r0, r1, r2, r3, some (.lst (W.map walkD)), r5, r6, r7, r8, r9, r10, r11, r12, r13, r14, r15, r16, r17] η = .ok (.lst ((W.map walkS).map .str)) η := by
  rw [List.map_map]
  exact fLc_all walkD (fun w => .str (walkS w)) W (by simp -implicitDefEqProofs) (by have := h.l; rw [sizeLine_eq]; omega) fun w hw => ⟨_, rfl, by
    simp -implicitDefEqProofs [-List.map_map, _law_right_e6, texts_ok (η := η) h.x h.y h.wks w hw]⟩
theorem lr_s16 (h : Lap xs ys W) (h0 : 0 ≤ k) (hu : Walk xs.length ys.length (some k) u) (hc : costC xs ys u = labP xs ys (some k) (0, 0)) : _law_right_s16 [some (.ref i), r1, some (serD xs), some (serD ys), some (.lst (W.map walkD)), some (.lst ((W.map (costC xs ys)).map .int)), r6, some (.int (labP xs ys (some k) (0, 0))), r8, r9, some (walkD u), r11, r12, r13, some (.int k), some (.lst (((W.filter (inW xs ys k)).map (costC xs ys)).map .int)), r16, r17] η = .nx [some (.ref i), r1, some (serD xs), some (serD ys), some (.lst (W.map walkD)), some (.lst ((W.map (costC xs ys)).map .int)), r6, some (.int (labP xs ys (some k) (0, 0))), r8, r9, some (walkD u), r11, r12, r13, some (.int k), some (.lst (((W.filter (inW xs ys k)).map (costC xs ys)).map .int)), r16, r17] η := by
  have hk : ∀ w, some k = some w → 0 ≤ w := fun w e => by cases e; exact h0
  have hun := ((walk_wide (dm0 hk h.x h.y)).mp hu).1
  have wb := h.walk_b hun
  have mi := min_in (η := η) h h0
  obtain ⟨s, hs⟩ := repr_int (k := labP xs ys (some k) (0, 0)) (by rw [← hc]; exact Nat.lt_trans (h.cost_small hun) p25)
  have hs := hs η
  obtain ⟨t, h1, h2⟩ := repr_top (η := η) (top_of (walk_nice wb.2.2) (by omega) (by decide))
  have i1 := notin_strs (η := η) (s := t) (l := W.map walkS)
  rw [is_in_walks h.wks h2, isWalkB_iff.mpr ⟨u, rfl, hun⟩] at i1
  have c6 := lr_c6 (η := η) (r0 := some (.ref i)) (r1 := r1) (r2 := some (serD xs)) (r3 := some (serD ys)) (r5 := some (.lst ((W.map (costC xs ys)).map .int))) (r6 := r6) (r7 := some (.int (labP xs ys (some k) (0, 0)))) (r8 := r8) (r9 := r9) (r10 := some (walkD u)) (r11 := r11) (r12 := r12) (r13 := r13) (r14 := some (.int k)) (r15 := some (.lst (((W.filter (inW xs ys k)).map (costC xs ys)).map .int))) (r16 := r16) (r17 := r17) h
  generalize (W.map walkS).map D.str = sl at *
  generalize D.lst (((W.filter (inW xs ys k)).map (costC xs ys)).map .int) = wi at *
  generalize D.lst ((W.map (costC xs ys)).map .int) = cl at *
  simp -implicitDefEqProofs [-List.map_map, _law_right_s16, hs, mi, h1, c6, i1]
theorem lr_s17 (h : Lap xs ys W) (hη : Pu η) (h0 : 0 ≤ k) (hu : Walk xs.length ys.length (some k) u) (hc : costC xs ys u = labP xs ys (some k) (0, 0)) : _law_right_s17 [some (.ref i), r1, some (serD xs), some (serD ys), some (.lst (W.map walkD)), some (.lst ((W.map (costC xs ys)).map .int)), r6, some (.int (labP xs ys (some k) (0, 0))), r8, r9, some (walkD u), r11, r12, r13, some (.int k), some (.lst (((W.filter (inW xs ys k)).map (costC xs ys)).map .int)), r16, r17] η = .nx [some (.ref i), r1, some (serD xs), some (serD ys), some (.lst (W.map walkD)), some (.lst ((W.map (costC xs ys)).map .int)), r6, some (.int (labP xs ys (some k) (0, 0))), r8, r9, some (walkD u), r11, r12, r13, some (.int k), some (.lst (((W.filter (inW xs ys k)).map (costC xs ys)).map .int)), r16, r17] η := by
  have hk : ∀ w, some k = some w → 0 ≤ w := fun w e => by cases e; exact h0
  have hww := (walk_wide (dm0 hk h.x h.y)).mp hu
  have hun := hww.1
  have wb := h.walk_b hun
  have cw := law_walk_cost_ok (xs := xs) (ys := ys) (w := u) hη (walk_inG hun h.x h.y) (by omega)
  have hne : u ≠ [] := by intro z; subst z; simp at wb
  have fa := law_far_ok (xs := xs) (ys := ys) (w := u) hη hne (by omega)
  have hf : ¬ k < farI xs.length ys.length u := by
    have := (farI_le h0 hne).mpr hww.2
    omega
  rw [hc] at cw
  simp -implicitDefEqProofs [-List.map_map, _law_right_s17, cw, fa, hf]
theorem lr_s18 (h : Lap xs ys W) : _law_right_s18 [r0, r1, some (serD xs), some (serD ys), r4, r5, r6, r7, r8, r9, r10, r11, r12, r13, r14, r15, r16, r17] η = .nx [r0, r1, some (serD xs), some (serD ys), r4, r5, r6, r7, r8, r9, r10, r11, r12, r13, r14, r15, some (.int (endsI xs ys)), r17] η := by
  have a1 := ser_ix0 (η := η) h.x.lo
  have a2 := ser_ix0 (η := η) h.y.lo
  have b1 := ser_last (η := η) h.x.lo
  have b2 := ser_last (η := η) h.y.lo
  have bd : 0 ≤ absI (lastI xs - lastI ys) ∧ absI (lastI xs - lastI ys) ≤ 2000000 := cell_b h.x h.y (endP xs.length ys.length)
  have big : (2 : Int) ^ 200 = 1606938044258990275541962092341162602522202993782792835301376 := by decide
  have m1 := mul_ok (η := η) (a := absI (lastI xs - lastI ys)) (b := 1) (by omega) (by omega) (by decide) (by decide)
  have m0 := mul_ok (η := η) (a := absI (lastI xs - lastI ys)) (b := 0) (by omega) (by omega) (by decide) (by decide)
  unfold endsI
  unfold absI at *
  generalize xs.getD 0 0 = u1 at *
  generalize ys.getD 0 0 = u2 at *
  generalize lastI xs = v1 at *
  generalize lastI ys = v2 at *
  generalize hq : (if v1 - v2 < 0 then -(v1 - v2) else v1 - v2) = q at *
  by_cases h2 : xs.length + ys.length > 2
  · have h' : (2 : Int) < (xs.length : Int) + ys.length := by omega
    rw [if_pos h2]
    simp -implicitDefEqProofs [-List.map_map, _law_right_s18, a1, a2, b1, b2, h', hq, m1]
  · have h' : ¬ (2 : Int) < (xs.length : Int) + ys.length := by omega
    rw [if_neg h2]
    simp -implicitDefEqProofs [-List.map_map, _law_right_s18, a1, a2, b1, b2, h', hq, m0]
theorem lr_s19 (h : Lap xs ys W) : _law_right_s19 [r0, r1, some (serD xs), some (serD ys), r4, r5, r6, r7, r8, r9, r10, r11, r12, r13, r14, r15, some (.int (endsI xs ys)), r17] η = .nx [r0, r1, some (serD xs), some (serD ys), r4, r5, r6, r7, r8, r9, r10, r11, r12, r13, r14, r15, some (.int (endsI xs ys)), some (.int (boundI xs ys))] η := by
  have c1 := ser_max (η := η) h.x.lo
  have c2 := ser_max (η := η) h.y.lo
  have d1 := ser_min (η := η) h.x.lo
  have d2 := ser_min (η := η) h.y.lo
  have e : boundI xs ys = max (max (max (endsI xs ys) (maxL xs - maxL ys)) (minL ys - minL xs)) 0 := by
    unfold boundI
    omega
  rw [e]
  simp -implicitDefEqProofs [-List.map_map, _law_right_s19, c1, c2, d1, d2]
theorem lr_s20 (h : Lap xs ys W) (hη : Pu η) : _law_right_s20 [r0, r1, some (serD xs), some (serD ys), r4, some (.lst ((W.map (costC xs ys)).map .int)), r6, r7, r8, r9, r10, r11, r12, r13, r14, r15, r16, some (.int (boundI xs ys))] η = .nx [r0, r1, some (serD xs), some (serD ys), r4, some (.lst ((W.map (costC xs ys)).map .int)), r6, r7, r8, r9, r10, r11, r12, r13, r14, r15, r16, some (.int (boundI xs ys))] η := by
  have bo := bound_of_ok hη h.x h.y
  have bl := bound_le h.x h.y
  have mn := h.mn (η := η)
  have b0 : 0 ≤ boundI xs ys := by unfold boundI; omega
  obtain ⟨s, hs⟩ := repr_int (k := boundI xs ys) (by have := h.lab_small; have := p25; omega)
  have hs := hs η
  have bl' : ¬ labP xs ys none (0, 0) < boundI xs ys := by omega
  generalize D.lst ((W.map (costC xs ys)).map .int) = cl at *
  simp -implicitDefEqProofs [-List.map_map, _law_right_s20, bo, hs, mn, bl']
theorem lr_b2 {d : D} (hη : Pu η) (hd : Top d) : _law_right_b2 [r0, r1, r2, r3, r4, r5, r6, r7, some d, r9, r10, r11, r12, r13, r14, r15, r16, r17] η = .nx [r0, r1, r2, r3, r4, r5, r6, r7, some d, r9, r10, r11, r12, r13, r14, r15, r16, r17] η := by
  have i1 := is_series_deep hη hd.deep
  have i2 := law_is_series_ok hη hd.deep
  have ib := is_bool_ok (η := η) (a := isSerD d) (b := isSerD d) hη
  rw [decide_eq_true rfl] at ib
  simp -implicitDefEqProofs [-List.map_map, _law_right_b2, i1, i2, ib]
theorem ser_nice {n : Nat} (hx : Ser xs) (h4 : xs.length ≤ 4) : NiceL 404 0 (xs.map .int) := by
  have e25 : (10 : Nat) ^ 25 = 10000000000000000000000000 := by decide
  exact (ints_nice fun x h => by have := hx.b x h; omega).mono (by omega) (Nat.le_refl _)
theorem lr_l2 {b : Nat} (h : Lap xs ys W) (hη : Pu η) (hp : Pot η i b) (hb : b < 800000) : ∃ r8' η', _law_right_l2 [some (.ref i), r1, some (serD xs), r3, r4, r5, r6, r7, r8, r9, r10, r11, r12, r13, r14, r15, r16, r17] η = .nx [some (.ref i), r1, some (serD xs), r3, r4, r5, r6, r7, r8', r9, r10, r11, r12, r13, r14, r15, r16, r17] η' ∧ Pu η' ∧ Pot η' i (b + 100) ∧ Same i η η' := by
  obtain ⟨od, η1, e1, to, p1, q1, s1⟩ := odd_ok hη hp (by omega)
  have e12 : (10 : Nat) ^ 12 = 1000000000000 := by decide
  have nl := ser_nice (n := 0) h.x h.x4
  have nx : Nice 404 1 (serD xs) := Nice.tup nl
  obtain ⟨ds, η2, e2, l2, t2, p2, q2, s2⟩ := bents_ok (n := 3) (k := 2) (d := serD xs) (ρ := [some (.ref i), r1, some (serD xs), r3, r4, r5, r6, r7, r8, r9, r10, r11, r12, r13, r14, r15, r16, r17]) p1 q1 (by omega) (by decide) (inb_up (inb_ints (l := xs) (by have := h.x4; omega) fun x hx => by have := h.x.b x hx; omega) 4) (by have := nx.wt; omega) rfl rfl (by decide) rfl
  have e2 : _law_right_c7 [some (.ref i), r1, some (serD xs), r3, r4, r5, r6, r7, r8, r9, r10, r11, r12, r13, r14, r15, r16, r17] η1 = .ok (.lst ds) η2 := e2
  have tops : ∀ d ∈ [serD xs, .lst (xs.map .int), .tup [], od] ++ ds, Top d := fun d hd => by
    rcases List.mem_append.mp hd with hd | hd
    · simp only [List.mem_cons, List.not_mem_nil, or_false] at hd
      rcases hd with rfl | rfl | rfl | rfl
      · exact top_of nx (by decide) (by decide)
      · exact top_of (Nice.lst nl) (by decide) (by decide)
      · exact top_of (Nice.tup (n := 0) (k := 0) nil_nice) (by decide) (by decide)
      · exact to
    · exact t2 d hd
  have F := forL_inv (g := gN 8) (b := _law_right_b2) (fun l ρ η' => (∀ d ∈ l, Top d) ∧ η' = η2 ∧ ∃ r8, ρ = [some (.ref i), r1, some (serD xs), r3, r4, r5, r6, r7, r8, r9, r10, r11, r12, r13, r14, r15, r16, r17]) ([serD xs, .lst (xs.map .int), .tup [], od] ++ ds) [some (.ref i), r1, some (serD xs), r3, r4, r5, r6, r7, r8, r9, r10, r11, r12, r13, r14, r15, r16, r17] η2 ⟨tops, rfl, _, rfl⟩ (fun d l ρ η' ⟨hT, hη', r8, hρ⟩ => by
    subst hρ hη'
    exact ⟨_, _, rfl, _, _, .inl (lr_b2 (d := d) p2 (hT d List.mem_cons_self)), fun x hx => hT x (List.mem_cons_of_mem _ hx), rfl, _, rfl⟩)
  obtain ⟨ρ', η', e, _, hE, r8', rfl⟩ := F
  rw [hE] at e
  refine ⟨r8', η2, ?_, p2, q2.mono (by omega), s1.trans s2⟩
  refine (sFor_eq (η1 := η2) ?_).trans e
  have dl : dList η [serD xs] = some (.lst (xs.map .int)) := rfl
  have ad := add_lst (η := η2) (a := [serD xs, .lst (xs.map .int), .tup [], od]) (b := ds) (by rw [l2]; simp)
  generalize serD xs = sx at *
  generalize D.lst (xs.map .int) = wl at *
  simp -implicitDefEqProofs [-List.map_map, dl, e1, e2, ad]
theorem lr_s22 {b : Nat} (h : Lap xs ys W) (hη : Pu η) (hp : Pot η i b) (hb : b < 800000) : ∃ η', _law_right_s22 [some (.ref i), r1, some (serD xs), some (serD ys), r4, r5, r6, r7, r8, r9, r10, r11, r12, r13, r14, r15, r16, r17] η = .nx [some (.ref i), r1, some (serD xs), some (serD ys), r4, r5, r6, r7, r8, r9, r10, r11, r12, r13, r14, r15, r16, r17] η' ∧ Pu η' ∧ Pot η' i (b + 110) ∧ Same i η η' := by
  obtain ⟨η1, e1, p1, q1, s1⟩ := are_refused_ok hη hp (by omega) h.x h.y h.x4
  obtain ⟨η2, e2, p2, q2, s2⟩ := are_long_right_ok p1 q1 (by omega)
  exact ⟨η2, by simp -implicitDefEqProofs [-List.map_map, _law_right_s22, e1, e2], p2, q2.mono (by omega), s1.trans s2⟩
end
end K71
set_option Elab.async false
set_option linter.all false
set_option maxRecDepth 100000
set_option maxHeartbeats 2000000
namespace K71
open PySem PySem.Spec PyProof.Rows L2 Dn
/-- longer, and but for one -/
structure Ext1 (i : Nat) (η η' : Store) : Prop where
  len : η.length ≤ η'.length
  off : ∀ j, j < η.length → j ≠ i → η'[j]? = η[j]?
theorem Ext1.refl {i : Nat} {η : Store} : Ext1 i η η := ⟨Nat.le_refl _, fun _ _ _ => rfl⟩
theorem Ext1.trans {i : Nat} {η η1 η2 : Store} (a : Ext1 i η η1) (b : Ext1 i η1 η2) : Ext1 i η η2 := ⟨Nat.le_trans a.len b.len, fun j h k => (b.off j (Nat.lt_of_lt_of_le h a.len) k).trans (a.off j h k)⟩
theorem Ext1.same {i : Nat} {η η' : Store} (h : Same i η η') : Ext1 i η η' := ⟨Nat.le_of_eq h.len.symm, fun j _ k => h.off j k⟩
theorem Ext1.app {i : Nat} {η more : Store} : Ext1 i η (η ++ more) := ⟨by rw [List.length_append]; omega, fun j h _ => List.getElem?_append_left h⟩
theorem Ext1.set {i L : Nat} {η : Store} {n : Nat} {η0 : Store} {m : M} (h : Ext1 i η0 η) (hL : η0.length ≤ L) : Ext1 i η0 (η.set L m) := ⟨by rw [List.length_set]; exact h.len, fun j hj hk => by rw [List.getElem?_set_ne (by omega)]; exact h.off j hj hk⟩
theorem pot_app {i b : Nat} {η more : Store} (h : Pot η i b) : Pot (η ++ more) i b := by
  obtain ⟨o, s, c, h1, h2⟩ := h
  refine ⟨o, s, c, ?_, h2⟩
  rw [List.getElem?_append_left (List.getElem?_eq_some_iff.mp h1).1]
  exact h1
theorem pot_set {i L b : Nat} {η : Store} {m : M} (h : Pot η i b) (hL : L ≠ i) : Pot (η.set L m) i b := by
  obtain ⟨o, s, c, h1, h2⟩ := h
  exact ⟨o, s, c, by rw [List.getElem?_set_ne hL]; exact h1, h2⟩
theorem pot_lt {i b : Nat} {η : Store} (h : Pot η i b) : i < η.length := by
  obtain ⟨o, s, c, h1, _⟩ := h
  exact (List.getElem?_eq_some_iff.mp h1).1
section
variable {η : Store} {i : Nat}
variable {r0 r1 r2 r3 r4 r5 r6 r7 r8 r9 r10 r11 r12 r13 r14 r15 r16 r17 : Option D}
theorem lap_ok {b : Nat} (hη : Pu η) (hp : Pot η i b) (hb : b < 700000) : ∃ (r1' r2' r3' r4' r5' r6' r7' r8' r9' r10' r11' r12' r13' r14' r15' r16' r17' : Option D) (η' : Store), _law_right_b3 [some (.ref i), r1, r2, r3, r4, r5, r6, r7, r8, r9, r10, r11, r12, r13, r14, r15, r16, r17] η = .nx [some (.ref i), r1', r2', r3', r4', r5', r6', r7', r8', r9', r10', r11', r12', r13', r14', r15', r16', r17'] η' ∧ Pu η' ∧ Pot η' i (b + 1000) ∧ Ext1 i η η' := by
  obtain ⟨xs, η1, e1, x1, x2, x3, p1, q1, s1⟩ := series_ok (most := 4) hη hp (by omega) (by decide) (by decide)
  obtain ⟨ys, η2, e2, y1, y2, y3, p2, q2, s2⟩ := series_ok (most := 4) p1 q1 (by omega) (by decide) (by decide)
  have hx : Ser xs := ⟨x1, by omega, fun x h => by have := x3 x h; omega⟩
  have hy : Ser ys := ⟨y1, by omega, fun x h => by have := y3 x h; omega⟩
  obtain ⟨W, hW, hWl, ew⟩ := law_walks_ok p2 hx hy (by omega) (by omega)
  have h : Lap xs ys W := ⟨hx, hy, by omega, by omega, hW, hWl⟩
  have t0 : _law_right_s0 [some (.ref i), r1, r2, r3, r4, r5, r6, r7, r8, r9, r10, r11, r12, r13, r14, r15, r16, r17] η = .nx [some (.ref i), r1, some (serD xs), some (serD ys), r4, r5, r6, r7, r8, r9, r10, r11, r12, r13, r14, r15, r16, r17] η2 := by
    simp -implicitDefEqProofs [-List.map_map, _law_right_s0, e1, e2]
  have t1 : _law_right_s1 [some (.ref i), r1, some (serD xs), some (serD ys), r4, r5, r6, r7, r8, r9, r10, r11, r12, r13, r14, r15, r16, r17] η2 = .nx [some (.ref i), r1, some (serD xs), some (serD ys), some (.lst (W.map walkD)), r5, r6, r7, r8, r9, r10, r11, r12, r13, r14, r15, r16, r17] η2 := by
    simp -implicitDefEqProofs [-List.map_map, _law_right_s1, ew]
  have t2 : _law_right_s2 [some (.ref i), r1, some (serD xs), some (serD ys), some (.lst (W.map walkD)), r5, r6, r7, r8, r9, r10, r11, r12, r13, r14, r15, r16, r17] η2 = .nx [some (.ref i), r1, some (serD xs), some (serD ys), some (.lst (W.map walkD)), some (.lst ((W.map (costC xs ys)).map .int)), r6, r7, r8, r9, r10, r11, r12, r13, r14, r15, r16, r17] η2 := by
    have c0 := lr_c0 (η := η2) (i := i) (r1 := r1) (r5 := r5) (r6 := r6) (r7 := r7) (r8 := r8) (r9 := r9) (r10 := r10) (r11 := r11) (r12 := r12) (r13 := r13) (r14 := r14) (r15 := r15) (r16 := r16) (r17 := r17) h p2
    generalize D.lst ((W.map (costC xs ys)).map .int) = cl at *
    simp -implicitDefEqProofs [-List.map_map, _law_right_s2, c0]
  have t3 := lr_s3 (η := η2) (i := i) (r1 := r1) (r6 := r6) (r7 := r7) (r8 := r8) (r9 := r9) (r10 := r10) (r11 := r11) (r12 := r12) (r13 := r13) (r14 := r14) (r15 := r15) (r16 := r16) (r17 := r17) h p2
  have t4 := lr_s4 (η := η2) (i := i) (r1 := r1) (r6 := r6) (r7 := r7) (r8 := r8) (r9 := r9) (r10 := r10) (r11 := r11) (r12 := r12) (r13 := r13) (r14 := r14) (r15 := r15) (r16 := r16) (r17 := r17) h p2
  obtain ⟨w, η3, hw, t5, p3, q3, s3⟩ := lr_s5 (η := η2) (i := i) (r1 := r1) (r6 := r6) (r7 := r7) (r8 := r8) (r9 := r9) (r10 := r10) (r11 := r11) (r12 := r12) (r13 := r13) (r14 := r14) (r15 := r15) (r16 := r16) (r17 := r17) h p2 q2 (by omega)
  have t6 := lr_s6 (η := η3) (i := i) (r1 := r1) (r7 := r7) (r8 := r8) (r9 := r9) (r10 := r10) (r11 := r11) (r12 := r12) (r13 := r13) (r14 := r14) (r15 := r15) (r16 := r16) (r17 := r17) h p3 hw
  obtain ⟨r8a, η4, t7, p4, q4, s4⟩ := lr_l0 (η := η3) (i := i) (r1 := r1) (r7 := r7) (r8 := r8) (r9 := r9) (r10 := r10) (r11 := r11) (r12 := r12) (r13 := r13) (r14 := r14) (r15 := r15) (r16 := r16) (r17 := r17) h p3 q3 (by omega) hw
  obtain ⟨v, hv, hc, t8⟩ := lr_s8 (η := η4) (w := w) (i := i) (r1 := r1) (r7 := r7) (r8 := r8a) (r9 := r9) (r10 := r10) (r11 := r11) (r12 := r12) (r13 := r13) (r14 := r14) (r15 := r15) (r16 := r16) (r17 := r17) h p4
  have t9 := lr_s9 (η := η4) (w := w) (i := i) (r1 := r1) (r7 := r7) (r8 := r8a) (r9 := r9) (r10 := r10) (r12 := r12) (r13 := r13) (r14 := r14) (r15 := r15) (r16 := r16) (r17 := r17) h p4 hv hc
  obtain ⟨od, η5, to, t10, p5, q5, s5⟩ := lr_s10 (η := η4) (v := v) (i := i) (r1 := r1) (r7 := r7) (r8 := r8a) (r9 := r9) (r10 := r10) (r12 := r12) (r13 := r13) (r14 := r14) (r15 := r15) (r16 := r16) (r17 := r17) h p4 q4 (by omega) hw hv
  have t5p := some5_top (v := v) h hv to
  have p5' : Pu (η5 ++ [M.l (some5 xs ys v od)]) := pu_app p5 (by simp [M.pure, deeps_pure _ (deeps_of fun x hx => (t5p x hx).deep)])
  have i5 := pot_lt q5
  have hL : (η5 ++ [M.l (some5 xs ys v od)])[η5.length]? = some (.l (some5 xs ys v od)) := by simp
  have t11 := lr_s11 (η := η5 ++ [M.l (some5 xs ys v od)]) (w := w) (v := v) (i := i) (od := od) (L := η5.length) (r1 := r1) (r8 := r8a) (r9 := r9) (r10 := r10) (r13 := r13) (r14 := r14) (r15 := r15) (r16 := r16) (r17 := r17) h hL
  have tops : ∀ d ∈ some5 xs ys v od ++ [bentT xs ys w], Top d := fun d hd => by
    rcases List.mem_append.mp hd with hd | hd
    · exact t5p d hd
    · rw [List.mem_singleton.mp hd]
      exact bentT_top h (h.is hw)
  have p6 : Pu ((η5 ++ [M.l (some5 xs ys v od)]).set η5.length (.l (some5 xs ys v od ++ [bentT xs ys w]))) := Pu.set p5' (deeps_pure _ (deeps_of fun x hx => (tops x hx).deep))
  have q6 : Pot ((η5 ++ [M.l (some5 xs ys v od)]).set η5.length (.l (some5 xs ys v od ++ [bentT xs ys w]))) i (b + 50 + 50 + 1 + 100 + 1) := pot_set (pot_app q5) (by omega)
  have hL6 : ((η5 ++ [M.l (some5 xs ys v od)]).set η5.length (.l (some5 xs ys v od ++ [bentT xs ys w])))[η5.length]? = some (.l (some5 xs ys v od ++ [bentT xs ys w])) := List.getElem?_set_self (by simp)
  have x6 : Ext1 i η ((η5 ++ [M.l (some5 xs ys v od)]).set η5.length (.l (some5 xs ys v od ++ [bentT xs ys w]))) := by
    have hs := s1.trans (s2.trans (s3.trans (s4.trans s5)))
    have x5 := (Ext1.same hs).trans (Ext1.app (more := [M.l (some5 xs ys v od)]))
    exact x5.set (n := 0) (L := η5.length) (by have := hs.len; omega)
  generalize hη6 : (η5 ++ [M.l (some5 xs ys v od)]).set η5.length (.l (some5 xs ys v od ++ [bentT xs ys w])) = η6 at *
  obtain ⟨r8b, r13b, η7, t12, p7, q7, s7⟩ := lr_l1 (η := η6) (w := w) (v := v) (i := i) (L := η5.length) (r1 := r1) (r8 := r8a) (r9 := r9) (r10 := r10) (r13 := r13) (r14 := r14) (r15 := r15) (r16 := r16) (r17 := r17) h p6 q6 (by omega) hL6 (by omega) tops (by unfold some5; simp) hv
  obtain ⟨k, η8, k0, k4, t13, p8, q8, s8⟩ := lr_s13 (η := η7) (i := i) (r1 := r1) (r2 := some (serD xs)) (r3 := some (serD ys)) (r4 := some (.lst (W.map walkD))) (r5 := some (.lst ((W.map (costC xs ys)).map .int))) (r6 := some (walkD w)) (r7 := some (.int (costC xs ys w))) (r8 := r8b) (r9 := r9) (r10 := r10) (r11 := some (toldD xs ys v)) (r12 := some (.ref η5.length)) (r13 := r13b) (r14 := r14) (r15 := r15) (r16 := r16) (r17 := r17) p7 q7 (by omega)
  have t14 := lr_s14 (η := η8) (i := i) (k := k) (r1 := r1) (r6 := some (walkD w)) (r7 := some (.int (costC xs ys w))) (r8 := r8b) (r9 := r9) (r10 := r10) (r11 := some (toldD xs ys v)) (r12 := some (.ref η5.length)) (r13 := r13b) (r15 := r15) (r16 := r16) (r17 := r17) h p8
  obtain ⟨u, hu, huc, t15⟩ := lr_s15 (η := η8) (k := k) (r0 := some (.ref i)) (r1 := r1) (r4 := some (.lst (W.map walkD))) (r5 := some (.lst ((W.map (costC xs ys)).map .int))) (r6 := some (walkD w)) (r7 := some (.int (costC xs ys w))) (r8 := r8b) (r9 := r9) (r10 := r10) (r11 := some (toldD xs ys v)) (r12 := some (.ref η5.length)) (r13 := r13b) (r15 := some (.lst (((W.filter (inW xs ys k)).map (costC xs ys)).map .int))) (r16 := r16) (r17 := r17) h p8 k0 k4
  have t16 := lr_s16 (η := η8) (i := i) (u := u) (k := k) (r1 := r1) (r6 := some (walkD w)) (r8 := r8b) (r9 := r9) (r11 := some (toldD xs ys v)) (r12 := some (.ref η5.length)) (r13 := r13b) (r16 := r16) (r17 := r17) h k0 hu huc
  have t17 := lr_s17 (η := η8) (i := i) (u := u) (k := k) (r1 := r1) (r6 := some (walkD w)) (r8 := r8b) (r9 := r9) (r11 := some (toldD xs ys v)) (r12 := some (.ref η5.length)) (r13 := r13b) (r16 := r16) (r17 := r17) h p8 k0 hu huc
  have t18 := lr_s18 (η := η8) (r0 := some (.ref i)) (r1 := r1) (r4 := some (.lst (W.map walkD))) (r5 := some (.lst ((W.map (costC xs ys)).map .int))) (r6 := some (walkD w)) (r7 := some (.int (labP xs ys (some k) (0, 0)))) (r8 := r8b) (r9 := r9) (r10 := some (walkD u)) (r11 := some (toldD xs ys v)) (r12 := some (.ref η5.length)) (r13 := r13b) (r14 := some (.int k)) (r15 := some (.lst (((W.filter (inW xs ys k)).map (costC xs ys)).map .int))) (r16 := r16) (r17 := r17) h
  have t19 := lr_s19 (η := η8) (r0 := some (.ref i)) (r1 := r1) (r4 := some (.lst (W.map walkD))) (r5 := some (.lst ((W.map (costC xs ys)).map .int))) (r6 := some (walkD w)) (r7 := some (.int (labP xs ys (some k) (0, 0)))) (r8 := r8b) (r9 := r9) (r10 := some (walkD u)) (r11 := some (toldD xs ys v)) (r12 := some (.ref η5.length)) (r13 := r13b) (r14 := some (.int k)) (r15 := some (.lst (((W.filter (inW xs ys k)).map (costC xs ys)).map .int))) (r17 := r17) h
  have t20 := lr_s20 (η := η8) (r0 := some (.ref i)) (r1 := r1) (r4 := some (.lst (W.map walkD))) (r6 := some (walkD w)) (r7 := some (.int (labP xs ys (some k) (0, 0)))) (r8 := r8b) (r9 := r9) (r10 := some (walkD u)) (r11 := some (toldD xs ys v)) (r12 := some (.ref η5.length)) (r13 := r13b) (r14 := some (.int k)) (r15 := some (.lst (((W.filter (inW xs ys k)).map (costC xs ys)).map .int))) (r16 := some (.int (endsI xs ys))) h p8
  obtain ⟨r8c, η9, t21, p9, q9, s9⟩ := lr_l2 (η := η8) (i := i) (r1 := r1) (r3 := some (serD ys)) (r4 := some (.lst (W.map walkD))) (r5 := some (.lst ((W.map (costC xs ys)).map .int))) (r6 := some (walkD w)) (r7 := some (.int (labP xs ys (some k) (0, 0)))) (r8 := r8b) (r9 := r9) (r10 := some (walkD u)) (r11 := some (toldD xs ys v)) (r12 := some (.ref η5.length)) (r13 := r13b) (r14 := some (.int k)) (r15 := some (.lst (((W.filter (inW xs ys k)).map (costC xs ys)).map .int))) (r16 := some (.int (endsI xs ys))) (r17 := some (.int (boundI xs ys))) h p8 q8 (by omega)
  obtain ⟨η10, t22, p10, q10, s10⟩ := lr_s22 (η := η9) (i := i) (r1 := r1) (r4 := some (.lst (W.map walkD))) (r5 := some (.lst ((W.map (costC xs ys)).map .int))) (r6 := some (walkD w)) (r7 := some (.int (labP xs ys (some k) (0, 0)))) (r8 := r8c) (r9 := r9) (r10 := some (walkD u)) (r11 := some (toldD xs ys v)) (r12 := some (.ref η5.length)) (r13 := r13b) (r14 := some (.int k)) (r15 := some (.lst (((W.filter (inW xs ys k)).map (costC xs ys)).map .int))) (r16 := some (.int (endsI xs ys))) (r17 := some (.int (boundI xs ys))) h p9 q9 (by omega)
  refine ⟨r1, some (serD xs), some (serD ys), some (.lst (W.map walkD)), some (.lst ((W.map (costC xs ys)).map .int)), some (walkD w), some (.int (labP xs ys (some k) (0, 0))), r8c, r9, some (walkD u), some (toldD xs ys v), some (.ref η5.length), r13b, some (.int k), some (.lst (((W.filter (inW xs ys k)).map (costC xs ys)).map .int)), some (.int (endsI xs ys)), some (.int (boundI xs ys)), η10, ?_, p10, q10.mono (by omega), x6.trans (Ext1.same (s7.trans (s8.trans (s9.trans s10))))⟩
  unfold _law_right_b3
  refine (seq_nx t0).trans ?_
  refine (seq_nx t1).trans ?_
  refine (seq_nx t2).trans ?_
  refine (seq_nx t3).trans ?_
  refine (seq_nx t4).trans ?_
  refine (seq_nx t5).trans ?_
  refine (seq_nx t6).trans ?_
  refine (seq_nx t7).trans ?_
  refine (seq_nx t8).trans ?_
  refine (seq_nx t9).trans ?_
  refine (seq_nx t10).trans ?_
  refine (seq_nx t11).trans ?_
  refine (seq_nx t12).trans ?_
  refine (seq_nx t13).trans ?_
  refine (seq_nx t14).trans ?_
  refine (seq_nx t15).trans ?_
  refine (seq_nx t16).trans ?_
  refine (seq_nx t17).trans ?_
  refine (seq_nx t18).trans ?_
  refine (seq_nx t19).trans ?_
  refine (seq_nx t20).trans ?_
  refine (seq_nx t21).trans ?_
  exact t22
theorem law_right_ok {b : Nat} (hη : Pu η) (hp : Pot η i b) (hb : b < 100) : ∃ η', φ__law_right [.ref i] η = .ok (.bl true) η' ∧ Pu η' ∧ Same i η η' := by
  obtain ⟨ρ', η', e, ⟨u1, u2, u3, u4, u5, u6, u7, u8, u9, u10, u11, u12, u13, u14, u15, u16, u17, hρ⟩, pe, qe, xe⟩ := forL_seq (g := gN 1) (b := _law_right_b3) (fun k ρ η' => (∃ r1 r2 r3 r4 r5 r6 r7 r8 r9 r10 r11 r12 r13 r14 r15 r16 r17, ρ = [some (.ref i), r1, r2, r3, r4, r5, r6, r7, r8, r9, r10, r11, r12, r13, r14, r15, r16, r17]) ∧ Pu η' ∧ Pot η' i (b + 1000 * k) ∧ Ext1 i η η')
    ((List.range 5).map fun j => D.int (j : Nat)) 0 [some (.ref i), none, none, none, none, none, none, none, none, none, none, none, none, none, none, none, none, none] η ⟨⟨none, none, none, none, none, none, none, none, none, none, none, none, none, none, none, none, none, rfl⟩, hη, hp, .refl⟩
    (fun j d hj ρ η1 ⟨⟨r1, r2, r3, r4, r5, r6, r7, r8, r9, r10, r11, r12, r13, r14, r15, r16, r17, hρ⟩, p1, q1, x1⟩ => by
      obtain ⟨hj, rfl⟩ := up_get hj
      subst hρ
      obtain ⟨t1, t2, t3, t4, t5, t6, t7, t8, t9, t10, t11, t12, t13, t14, t15, t16, t17, η', e, p2, q2, x2⟩ := lap_ok (η := η1) (i := i) (b := b + 1000 * (0 + j)) (r1 := some (.int j)) (r2 := r2) (r3 := r3) (r4 := r4) (r5 := r5) (r6 := r6) (r7 := r7) (r8 := r8) (r9 := r9) (r10 := r10) (r11 := r11) (r12 := r12) (r13 := r13) (r14 := r14) (r15 := r15) (r16 := r16) (r17 := r17) p1 q1 (by omega)
      exact ⟨_, _, rfl, _, η', e, ⟨t1, t2, t3, t4, t5, t6, t7, t8, t9, t10, t11, t12, t13, t14, t15, t16, t17, rfl⟩, p2, by rw [show b + 1000 * (0 + j + 1) = b + 1000 * (0 + j) + 1000 by omega]; exact q2, x1.trans x2⟩)
  have hlt := pot_lt hp
  refine ⟨η'.take η.length, ?_, ?_, ?_⟩
  · show exitR η.length (fs__law_right (startD 18 [.ref i]) η) = _
    have e0 : startD 18 [.ref i] = [some (.ref i), none, none, none, none, none, none, none, none, none, none, none, none, none, none, none, none, none] := rfl
    have l3 : _law_right_l3 [some (.ref i), none, none, none, none, none, none, none, none, none, none, none, none, none, none, none, none, none] η = _ := (sFor_eq (η1 := η) (by
      have iu : itRg1 [D.int 5] = some (itF ((List.range 5).map fun j => D.int (j : Nat))) := it_up (n := 5) (by omega)
      simp -implicitDefEqProofs only [e_rg, e_cons, e_nil, e_C, R.bind_ok, iu, R.of_some])).trans e
    rw [e0]
    unfold fs__law_right
    rw [seq_nx l3]
    show exitR η.length (.rt (.bl true) η') = _
    unfold exitR
    dsimp only
    rw [if_pos (List.all_eq_true.mpr fun m hm => List.all_eq_true.mp pe m (List.mem_of_mem_take hm)), frz_pure rfl]
  · exact List.all_eq_true.mpr fun m hm => List.all_eq_true.mp pe m (List.mem_of_mem_take hm)
  · refine ⟨by rw [List.length_take]; have := xe.len; omega, fun j hj => ?_⟩
    by_cases hl : j < η.length
    · rw [List.getElem?_take_of_lt hl, xe.off j hl hj]
    · rw [List.getElem?_eq_none (by rw [List.length_take]; omega), List.getElem?_eq_none (by omega)]
end
end K71
set_option Elab.async false
set_option linter.all false
set_option maxRecDepth 100000
set_option maxHeartbeats 0
namespace K71
open PySem PySem.Spec PyProof.Rows L2 Dn
def fa0 : List He.Fa := [.free "abs", .free "all", .free "bool", .free "enumerate", .free "int", .free "isinstance", .free "len", .free "list", .free "max", .free "min", .free "range", .free "repr", .free "str", .free "sum", .free "tuple", .free "zip", .int "FOUR" 4, .int "MOST_NUMBER" 1000000, .int "MOST_NUMBERS" 40, .int "MOST_SUM" 1000000000, .str "WALK" "walk", .glo "LayingError", .glo "is_int", .glo "is_told", .glo "is_series"]
def fa1 : List He.Fa := [.glo "look_at_series", .glo "told_next", .glo "is_walk", .glo "told_cost", .glo "cost_of_walk", .glo "told_labels", .glo "is_in", .glo "told_walk", .glo "least_walk", .glo "shows_least_walk", .glo "least_walk_in_band", .glo "how_many_walks", .glo "how_many_least", .glo "bound_of", .glo "_law_pot", .glo "_law_take", .glo "_law_of", .glo "_law_cells", .glo "_law_heard", .glo "_law_odd", .glo "_law_is_int", .glo "_law_bent", .glo "_law_is_bool", .glo "_law_series", .glo "_law_walks"]
def fa2 : List He.Fa := [.glo "_law_walk_cost", .glo "_law_is_due", .glo "_law_far", .glo "_law_is_series", .glo "_law_are_refused", .glo "_law_are_long_right", .glo "_law_right", .glo "law"]
def fn0 : List He.DefD := [dd "is_int" (top 5), dd "is_told" (top 6), dd "is_series" (top 13), dd "look_at_series" (top 14), dd "told_next" (top 15), dd "is_walk" (top 16), dd "told_cost" (top 17), dd "cost_of_walk" (top 18), dd "told_labels" (top 19), dd "is_in" (top 20), dd "told_walk" (top 21), dd "least_walk" (top 22), dd "shows_least_walk" (top 23), dd "least_walk_in_band" (top 24), dd "how_many_walks" (top 25), dd "how_many_least" (top 26), dd "bound_of" (top 27), dd "_law_pot" (top 29), dd "_law_take" (top 30), dd "_law_of" (top 31), dd "_law_cells" (top 32), dd "_law_heard" (top 33), dd "_law_odd" (top 34), dd "_law_is_int" (top 35), dd "_law_bent" (top 36)]
def fn1 : List He.DefD := [dd "_law_is_bool" (top 37), dd "_law_series" (top 38), dd "_law_walks" (top 39), dd "_law_walk_cost" (top 40), dd "_law_is_due" (top 41), dd "_law_far" (top 42), dd "_law_is_series" (top 43), dd "_law_are_refused" (top 44), dd "_law_are_long_right" (top 45), dd "_law_right" (top 46), dd "law" (top 47)]
def lo0 : List PySem.Str := ["__name__", "LayingError", "BadInt", "BadTold", "is_int", "is_told", "MOST_NUMBERS", "MOST_NUMBER", "MOST_SUM", "WALK", "FOUR", "is_series", "look_at_series", "told_next", "is_walk", "told_cost", "cost_of_walk", "told_labels", "is_in", "told_walk", "least_walk", "shows_least_walk", "least_walk_in_band", "how_many_walks", "how_many_least"]
def lo1 : List PySem.Str := ["bound_of", "_law_pot", "_law_take", "_law_of", "_law_cells", "_law_heard", "_law_odd", "_law_is_int", "_law_bent", "_law_is_bool", "_law_series", "_law_walks", "_law_walk_cost", "_law_is_due", "_law_far", "_law_is_series", "_law_are_refused", "_law_are_long_right", "_law_right"]
abbrev Rw : PySem.W.OpenRow := PySem.W.OpenLaw.row PySem.Challenge.rw_rowunderrow_k71_whole_series_of_numbers
def look : Look := ⟨fa0 ++ fa1 ++ fa2, fn0 ++ fn1, ["_law_are_refused"], cs, Rw.prog.main.file⟩
def names : List PySem.Str := lo0 ++ lo1
abbrev qv : Program := PySem.W.view Rw.prog [47]
def ob (s : PySem.W.SharedT) : AlE := look.obs 5 (HandSHeadRun.getT s)
theorem ob_eq (s : PySem.W.SharedT) : ob s = (look.hook 5).obs s.abs := Look.obs_eq (HandSHeadRun.getT_eq s)
theorem run (w : World) : HandSHeadRun.RunEq Rw qv (look.hook 5) ob 4000 names w := by
  intro os
  kernel_rfl
theorem nv_of {w : World} {K : PySem.W.Frag} {mg : Str → Option Value} {h base : Heap} (X : K.In h) (G : h.Ns mainGlobals mg) (s : look.Says h K) (tb : ∀ t ∈ look.tab K, LamX.TabB base mg t.c t.p) : Nv Rw.prog w K mg base (lamT (look.tab K)) where
  b_abs := He.free_ok X G (s.fact 0)
  b_all := He.free_ok X G (s.fact 1)
  b_bool := He.free_ok X G (s.fact 2)
  b_enumerate := He.free_ok X G (s.fact 3)
  b_int := He.free_ok X G (s.fact 4)
  b_isinstance := He.free_ok X G (s.fact 5)
  b_len := He.free_ok X G (s.fact 6)
  b_list := He.free_ok X G (s.fact 7)
  b_max := He.free_ok X G (s.fact 8)
  b_min := He.free_ok X G (s.fact 9)
  b_range := He.free_ok X G (s.fact 10)
  b_repr := He.free_ok X G (s.fact 11)
  b_str := He.free_ok X G (s.fact 12)
  b_sum := He.free_ok X G (s.fact 13)
  b_tuple := He.free_ok X G (s.fact 14)
  b_zip := He.free_ok X G (s.fact 15)
  c_FOUR := He.int_ok X G (s.fact 16)
  c_MOST_NUMBER := He.int_ok X G (s.fact 17)
  c_MOST_NUMBERS := He.int_ok X G (s.fact 18)
  c_MOST_SUM := He.int_ok X G (s.fact 19)
  c_WALK := He.str_ok X G (s.fact 20)
  M := s.errs X G rfl rfl (He.glo_ok X G (s.fact 21))
  d_is_int := s.def_ 0
  g_is_int := He.glo_ok X G (s.fact 22)
  d_is_told := s.def_ 1
  g_is_told := He.glo_ok X G (s.fact 23)
  d_is_series := s.def_ 2
  g_is_series := He.glo_ok X G (s.fact 24)
  d_look_at_series := s.def_ 3
  g_look_at_series := He.glo_ok X G (s.fact 25)
  d_told_next := s.def_ 4
  g_told_next := He.glo_ok X G (s.fact 26)
  d_is_walk := s.def_ 5
  g_is_walk := He.glo_ok X G (s.fact 27)
  d_told_cost := s.def_ 6
  g_told_cost := He.glo_ok X G (s.fact 28)
  d_cost_of_walk := s.def_ 7
  g_cost_of_walk := He.glo_ok X G (s.fact 29)
  d_told_labels := s.def_ 8
  g_told_labels := He.glo_ok X G (s.fact 30)
  d_is_in := s.def_ 9
  g_is_in := He.glo_ok X G (s.fact 31)
  d_told_walk := s.def_ 10
  g_told_walk := He.glo_ok X G (s.fact 32)
  d_least_walk := s.def_ 11
  g_least_walk := He.glo_ok X G (s.fact 33)
  d_shows_least_walk := s.def_ 12
  g_shows_least_walk := He.glo_ok X G (s.fact 34)
  d_least_walk_in_band := s.def_ 13
  g_least_walk_in_band := He.glo_ok X G (s.fact 35)
  d_how_many_walks := s.def_ 14
  g_how_many_walks := He.glo_ok X G (s.fact 36)
  d_how_many_least := s.def_ 15
  g_how_many_least := He.glo_ok X G (s.fact 37)
  d_bound_of := s.def_ 16
  g_bound_of := He.glo_ok X G (s.fact 38)
  d__law_pot := s.def_ 17
  g__law_pot := He.glo_ok X G (s.fact 39)
  d__law_take := s.def_ 18
  g__law_take := He.glo_ok X G (s.fact 40)
  d__law_of := s.def_ 19
  g__law_of := He.glo_ok X G (s.fact 41)
  d__law_cells := s.def_ 20
  g__law_cells := He.glo_ok X G (s.fact 42)
  d__law_heard := s.def_ 21
  g__law_heard := He.glo_ok X G (s.fact 43)
  d__law_odd := s.def_ 22
  g__law_odd := He.glo_ok X G (s.fact 44)
  d__law_is_int := s.def_ 23
  g__law_is_int := He.glo_ok X G (s.fact 45)
  d__law_bent := s.def_ 24
  g__law_bent := He.glo_ok X G (s.fact 46)
  d__law_is_bool := s.def_ 25
  g__law_is_bool := He.glo_ok X G (s.fact 47)
  d__law_series := s.def_ 26
  g__law_series := He.glo_ok X G (s.fact 48)
  d__law_walks := s.def_ 27
  g__law_walks := He.glo_ok X G (s.fact 49)
  d__law_walk_cost := s.def_ 28
  g__law_walk_cost := He.glo_ok X G (s.fact 50)
  d__law_is_due := s.def_ 29
  g__law_is_due := He.glo_ok X G (s.fact 51)
  d__law_far := s.def_ 30
  g__law_far := He.glo_ok X G (s.fact 52)
  d__law_is_series := s.def_ 31
  g__law_is_series := He.glo_ok X G (s.fact 53)
  l__law_are_refused := s.maker 32 tb
  g__law_are_refused := He.glo_ok X G (s.fact 54)
  d__law_are_long_right := s.def_ 33
  g__law_are_long_right := He.glo_ok X G (s.fact 55)
  d__law_right := s.def_ 34
  g__law_right := He.glo_ok X G (s.fact 56)
  d_law := s.def_ 35
  g_law := He.glo_ok X G (s.fact 57)
theorem holds_of (hφ : ∀ ns : List Int, ns.length ≤ 63 → (∀ z ∈ ns, Builtin.Int.intBits z ≤ 1048576) → ∃ η, φ_law [.scr ns] [] = .ok (.bl true) η) : PySem.Challenge.rw_rowunderrow_k71_whole_series_of_numbers.Holds := by
  w_on; o_law
  refine HandSHeadRun.head_any (r := Rw) (q := qv) (H := look.hook 5) (ob := ob) (M := 4000) (loose := names) (d := HandSHeadRun.topDef Rw.prog 47) (kwd := []) ob_eq
    (by kernel_rfl) (fun s => by kernel_rfl) run (by kernel_rfl) (by kernel_rfl) (by kernel_rfl) (by rfl) (by first | assumption | decide +kernel) (by decide +kernel) ⟨rfl, rfl, rfl, rfl, rfl, by decide +kernel⟩ ?hw ?hc
  case hw => w_witness2
  case hc => exact walk_dn (l := PySem.Challenge.rw_rowunderrow_k71_whole_series_of_numbers) (lk := look) (n := 63) (k := 12) (x := "script") (st := top 47) (φ := φ_law) rfl (by decide) (by kernel_rfl) ⟨rfl, by decide, by decide⟩ (by kernel_rfl) (fun w mg h K base X G s tb => ok_law (nv_of X G s tb)) 35 rfl 57 rfl bi_law hφ
end K71
set_option Elab.async false
set_option linter.all false
set_option maxRecDepth 100000
set_option maxHeartbeats 2000000
namespace K71
open PySem PySem.Spec PyProof.Rows L2 Dn
section
variable {η : Store}
theorem pot_made {ns : List Int} {k : Nat} (hk : k < 3) (hη : Pu η) : ∃ o s : Int, φ__law_pot [.scr ns, .int (k : Nat)] η = .ok (.ref η.length) (η ++ [.l [.int o, .int s, .int 0]]) ∧ 0 ≤ s ∧ s < 2305843009213693952 := by
  have big : (2 : Int) ^ 200 = 1606938044258990275541962092341162602522202993782792835301376 := by decide
  -- the cell
  obtain ⟨cell, hcell⟩ : ∃ cell : Int, (sSet 2 (fIf (fTest (f2 dLt (fVar 1) (fCl dLen (fCons (fVar 0) fNil)))) (f2 dIx (fVar 0) (fVar 1)) (f2 dAdd (f2 dAdd (f2 dMod (fCl dInt (fCons (fCl dSum (fCons (fSl (fVar 0) fNoPart (fPart (fC (.int 1)))) fNil)) fNil)) (fC (.int 1000381))) (f2 dMul (fC (.int 5077)) (fVar 1))) (fC (.int 3121))))) [some (.scr ns), some (.int (k : Nat)), none, none, none] η = .nx [some (.scr ns), some (.int (k : Nat)), some (.int cell), none, none] η := by
    have hl : dLen η [.scr ns] = some (.int ns.length) := rfl
    by_cases h : k < ns.length
    · refine ⟨ns[k], ?_⟩
      have h' : (k : Int) < (ns.length : Int) := by omega
      have ix : dIx η (.scr ns) (.int (k : Nat)) = some (.int ns[k]) := by
        show (atI ns (k : Int)).map D.int = _
        rw [Dn.atI_nat h]
        rfl
      simp -implicitDefEqProofs [hl, h', ix]
    · have h' : ¬ (k : Int) < (ns.length : Int) := by omega
      have sl : dSl η (.scr ns) none (some 1) = some (.lst ((cutD ns none (some 1)).map .int)) := rfl
      have ml := mul_ok (η := η) (a := 5077) (b := (k : Int)) (by decide) (by decide) (by omega) (by omega)
      have md : dMod η (.int (cutD ns none (some 1)).sum) (.int 1000381) = some (.int ((cutD ns none (some 1)).sum % 1000381)) := rfl
      refine ⟨(cutD ns none (some 1)).sum % 1000381 + 5077 * (k : Int) + 3121, ?_⟩
      generalize cutD ns none (some 1) = cu at *
      simp -implicitDefEqProofs [hl, h', sl, ml, md]
  obtain ⟨ab, hab⟩ : ∃ ab : Int, dAbs η [.int cell] = some (.int ab) := ⟨_, rfl⟩
  have pw1 : dPow η (.int 10) (.int 60) = some (.int (10 ^ 60)) := by
    unfold dPow
    dsimp only
    rw [if_pos (by decide +kernel)]
    rfl
  have pw2 : dPow η (.int (10 ^ 60)) (.int 5) = some (.int ((10 ^ 60) ^ 5)) := by
    unfold dPow
    dsimp only
    rw [if_pos (by decide +kernel)]
    rfl
  have pw3 : dPow η (.int 10) (.int 18) = some (.int (10 ^ 18)) := by
    unfold dPow
    dsimp only
    rw [if_pos (by decide +kernel)]
    rfl
  have md1 : dMod η (.int ab) (.int ((10 ^ 60) ^ 5)) = some (.int (ab % (10 ^ 60) ^ 5)) := by
    show (if (0 : Int) < (10 ^ 60) ^ 5 then some (D.int (ab % (10 ^ 60) ^ 5)) else none) = _
    rw [if_pos (by decide +kernel)]
  have m0 : 0 ≤ ab % (10 ^ 60) ^ 5 := Int.emod_nonneg _ (by decide +kernel)
  have m1 : ab % (10 ^ 60) ^ 5 < (10 ^ 60) ^ 5 := Int.emod_lt_of_pos _ (by decide +kernel)
  obtain ⟨bt, hbt⟩ : ∃ bt : Int, bt = (if decide (10 ^ 18 ≤ ab) = true then 1 else 0) := ⟨_, rfl⟩
  have hb1 : bt.natAbs.log2 ≤ 1 := by
    rw [hbt]
    split <;> decide
  have ml1 : ∃ o, dMul η (.int (ab % (10 ^ 60) ^ 5)) (.int bt) = some (.int o) := by
    refine ⟨ab % (10 ^ 60) ^ 5 * bt, ?_⟩
    unfold dMul
    dsimp only
    rw [if_pos]
    have : (ab % (10 ^ 60) ^ 5).natAbs < 2 ^ 1000 := by
      have e : (10 : Int) ^ 60 = ((10 ^ 60 : Nat) : Int) := by decide +kernel
      have h3 : ((10 : Int) ^ 60) ^ 5 = (((10 ^ 60) ^ 5 : Nat) : Int) := by decide +kernel
      have h4 : (10 ^ 60) ^ 5 < 2 ^ 1000 := by decide +kernel
      rw [h3] at m0 m1 ⊢
      omega
    have := log_lt this (by decide)
    omega
  obtain ⟨own, hown⟩ := ml1
  obtain ⟨sm, hsm⟩ : ∃ sm : Int, sm = cell % 2305843009213693921 := ⟨_, rfl⟩
  have s0 : 0 ≤ sm := by rw [hsm]; exact Int.emod_nonneg _ (by decide)
  have s1 : sm < 2305843009213693921 := by rw [hsm]; exact Int.emod_lt_of_pos _ (by decide)
  have md2 : dMod η (.int cell) (.int 2305843009213693921) = some (.int sm) := by rw [hsm]; rfl
  have ml2 := mul_ok (η := η) (a := sm) (b := 70207) (by omega) (by omega) (by decide) (by decide)
  have ml3 := mul_ok (η := η) (a := 13099) (b := (k : Int)) (by decide) (by decide) (by omega) (by omega)
  have ml4 := mul_ok (η := η) (a := 13099 * (k : Int)) (b := (k : Int)) (by omega) (by omega) (by omega) (by omega)
  obtain ⟨f, hf⟩ : ∃ f : Int, f = (sm * 70207 + 13099 * (k : Int) * (k : Int) + 2957) % 2305843009213693921 := ⟨_, rfl⟩
  have md3 : dMod η (.int (sm * 70207 + 13099 * (k : Int) * (k : Int) + 2957)) (.int 2305843009213693921) = some (.int f) := by rw [hf]; rfl
  refine ⟨own, f, ?_, by rw [hf]; exact Int.emod_nonneg _ (by decide), by
    have : f < 2305843009213693921 := by rw [hf]; exact Int.emod_lt_of_pos _ (by decide)
    omega⟩
  have e : fs__law_pot [some (.scr ns), some (.int (k : Nat)), none, none, none] η = .rt (.ref η.length) (η ++ [.l [.int own, .int f, .int 0]]) := by
    unfold fs__law_pot
    rw [seq_nx hcell]
    generalize (10 : Int) ^ 18 = e18 at *
    generalize ((10 : Int) ^ 60) ^ 5 = e300 at *
    generalize (10 : Int) ^ 60 = e60 at *
    rw [seq_nx (ρ' := [some (.scr ns), some (.int (k : Nat)), some (.int cell), some (.int own), none]) (η' := η) (by
      have hbt' : dInt η [.bl (decide (e18 ≤ ab))] = some (.int bt) := by rw [hbt]; rfl
      simp only [e_sSet, e_2, e_Cl, e_cons, e_nil, e_var, e_C, List.getElem?_cons_succ, List.getElem?_cons_zero, Option.bind_some, id_eq, R.of_some, R.bind_ok, R.thn_ok, hab, int_int, pw1, pw2, pw3, md1, Dn.ge_int, hbt', hown, List.set_cons_succ, List.set_cons_zero])]
    simp -implicitDefEqProofs [e_sSeq, md2, ml2, ml3, ml4, md3]
  show (match fs__law_pot [some (.scr ns), some (.int (k : Nat)), none, none, none] η with
    | .rt d η' => (.ok d η' : R D)
    | .nx _ η' => .ok .non η'
    | .rse c d η' => .rse c d η'
    | _ => .stk) = _
  rw [e]
/-! ### the law -/
theorem cells_ok {ns : List Int} (hη : Pu η) : ∃ m, m ≤ 3 ∧ φ__law_cells [.scr ns, .int 3] η = .ok (.lst ((List.range m).map fun j => D.int (j : Nat))) η := by
  obtain ⟨m, hm⟩ : ∃ m : Nat, m = (max 1 (min 3 (ns.length : Int))).toNat := ⟨_, rfl⟩
  refine ⟨m, by omega, ?_⟩
  show exitR η.length (fs__law_cells (startD 2 [.scr ns, .int 3]) η) = _
  have hl : dLen η [.scr ns] = some (.int ns.length) := rfl
  have e0 : startD 2 [.scr ns, .int 3] = [some (.scr ns), some (.int 3)] := rfl
  have rg : rgL [.int (max 1 (min 3 (ns.length : Int)))] = some ((List.range m).map fun j => D.int (j : Nat)) := by
    show (if 0 ≤ max 1 (min 3 (ns.length : Int)) ∧ max 1 (min 3 (ns.length : Int)) ≤ 16777216 then some ((List.range (max 1 (min 3 (ns.length : Int))).toNat).map fun i => D.int (i : Nat)) else none) = _
    rw [if_pos (by omega), hm]
  have e : fs__law_cells (startD 2 [.scr ns, .int 3]) η = .rt (.lst ((List.range m).map fun j => D.int (j : Nat))) η := by
    rw [e0]
    generalize (List.range m).map (fun j => D.int (j : Nat)) = rl at *
    simp -implicitDefEqProofs [fs__law_cells, hl, rg]
  refine (congrArg _ e).trans (exit_rt0 hη ?_)
  have : ∀ l : List Nat, D.pures (l.map fun j => D.int (j : Nat)) = true := fun l => by
    induction l with
    | nil => rfl
    | cons a l ih => rw [List.map_cons]; unfold D.pures; rw [ih]; rfl
  exact this _
/-! forty numbers -/
def zeros : List Int := List.replicate 40 0
def ones : List Int := List.replicate 40 1
theorem ser_zeros : Ser zeros := ⟨by decide, by decide, fun x h => by rw [List.eq_of_mem_replicate h]; decide⟩
theorem ser_ones : Ser ones := ⟨by decide, by decide, fun x h => by rw [List.eq_of_mem_replicate h]; decide⟩
theorem ser_one : Ser [1] := ⟨by decide, by decide, fun x h => by rw [List.mem_singleton.mp h]; decide⟩
theorem rep_get {n i : Nat} {z : Int} (h : i < n) : (List.replicate n z).getD i 0 = z := by
  have h' : i < (List.replicate n z).length := by rw [List.length_replicate]; exact h
  have : (List.replicate n z).getD i 0 = (List.replicate n z)[i] := by simp only [List.getD, List.getElem?_eq_getElem h', Option.getD_some]
  rw [this, List.getElem_replicate]
theorem cell_01 {p : Pl} (h1 : p.1 < 40) (h2 : p.2 < 40) : cellC zeros ones p = 1 := by
  have a : zeros.getD p.1 0 = 0 := rep_get h1
  have b : ones.getD p.2 0 = 1 := rep_get h2
  unfold cellC absI
  rw [a, b]
  rfl
theorem len0 : zeros.length = 40 := by decide
theorem len1 : ones.length = 40 := by decide
theorem lab01_le : ∀ (k i : Nat), 40 - i ≤ k → i < 40 → labP zeros ones none (i, i) ≤ 40 - (i : Int)
  | k, i, hk, hi => by
    by_cases he : i + 1 = 40
    · rw [lab_end (xs := zeros) (ys := ones) (p := (i, i)) (by rw [len0]; exact hi) (by rw [len1]; exact hi) (by rw [len0, len1]; exact Prod.ext (show i = 40 - 1 by omega) (show i = 40 - 1 by omega)), cell_01 hi hi]
      omega
    · match k, hk with
      | 0, hk => omega
      | k + 1, hk =>
        have ih := lab01_le k (i + 1) (by omega) (by omega)
        have := lab_step (xs := zeros) (ys := ones) (p := (i, i)) (q := (i + 1, i + 1)) (by rw [len0]; exact hi) (by rw [len1]; exact hi) (mem_nexts.mpr ⟨.inl rfl, by rw [len0]; dsimp only; omega, by rw [len1]; dsimp only; omega⟩)
        rw [cell_01 hi hi] at this
        omega
theorem lab01_ge : ∀ (k : Nat) (p : Pl), rkP 40 40 p ≤ k → p.1 < 40 → p.2 < 40 → 40 - (p.1 : Int) ≤ labP zeros ones none p
  | k, p, hk, h1, h2 => by
    have g1 : p.1 < zeros.length := by rw [len0]; exact h1
    have g2 : p.2 < ones.length := by rw [len1]; exact h2
    rw [labP_eq (fun _ => none_w) (dm_none g1 g2), nexts_nxA, cell_01 h1 h2, len0, len1]
    by_cases hn : nexts 40 40 p = []
    · have he := (end_iff h1 h2).mpr hn
      rw [hn, he]
      show 40 - ((39 : Nat) : Int) ≤ 1 + 0
      omega
    · obtain ⟨m, hm⟩ := minI_some (l := (nexts 40 40 p).map (labP zeros ones none)) (fun z => hn (List.map_eq_nil_iff.mp z))
      obtain ⟨q, hq, e⟩ := List.mem_map.mp (minI_spec hm).1
      obtain ⟨hs, q1, q2⟩ := mem_nexts.mp hq
      have hd := ((down 40 40 none (fun _ => none_w)).dec p q (dm_none h1 h2) (by rw [nexts_nxA]; exact hq)).1
      match k, hk with
      | 0, hk => omega
      | k + 1, hk =>
        have ih := lab01_ge k q (by omega) q1 q2
        rw [hm, ← e]
        show 40 - (p.1 : Int) ≤ 1 + labP zeros ones none q
        have : q.1 ≤ p.1 + 1 := by rcases hs with rfl | rfl | rfl <;> dsimp only <;> omega
        omega
theorem lab01 : labP zeros ones none (0, 0) = 40 := by
  have h1 := lab01_le 40 0 (by decide) (by decide)
  have h2 := lab01_ge _ (0, 0) (Nat.le_refl _) (by decide) (by decide)
  dsimp only at h2
  omega
theorem cnt01 : cntP 40 1 (0, 0) = 1 := by decide +kernel
theorem mul_rep {z : Int} {k : Nat} (h1 : 2 ≤ k) (h2 : k ≤ 1000) : dMul η (.tup [.int z]) (.int (k : Nat)) = some (serD (List.replicate k z)) := by
  show (if [D.int z] ≠ [] ∧ (2 : Int) ≤ (k : Int) ∧ (k : Int) ≤ 1000 ∧ [D.int z].length ≤ 1000 then some (D.tup (List.replicate ((k : Int)).toNat [D.int z]).flatten) else none) = _
  rw [if_pos ⟨by simp, by omega, by omega, by simp⟩, Int.toNat_natCast]
  unfold serD
  rw [List.map_replicate]
  congr 2
  clear h1 h2
  induction k with
  | zero => rfl
  | succ k ih => rw [List.replicate_succ, List.flatten_cons, ih]; rfl
theorem law_ok (ns : List Int) : ∃ η, φ_law [.scr ns] [] = .ok (.bl true) η := by
  have hη : Pu ([] : Store) := rfl
  obtain ⟨w, _, _, lw⟩ := least_walk_ok hη ser_zeros ser_ones
  rw [lab01] at lw
  have hm := how_many_walks_ok hη ser_zeros ser_one
  rw [show cntP zeros.length ([1] : List Int).length (0, 0) = 1 from cnt01] at hm
  have m0 : dMul [] (.tup [.int 0]) (.int 40) = some (serD zeros) := mul_rep (k := 40) (by decide) (by decide)
  have m1 : dMul [] (.tup [.int 1]) (.int 40) = some (serD ones) := mul_rep (k := 40) (by decide) (by decide)
  obtain ⟨m, hm3, ce⟩ := cells_ok (ns := ns) hη
  have so : D.tup [.int 1] = serD [1] := rfl
  -- the laps
  obtain ⟨ys, η', e, hl, hq, hpu, hle⟩ := fLc_inv (it := fIt (fCa 2 φ__law_cells (fCons (fVar 0) (fCons (fC (.int 3)) fNil)))) (g := gN 1) (te := fCa 1 φ__law_right (fCons (fCa 2 φ__law_pot (fCons (fVar 0) (fCons (fVar 1) fNil))) fNil)) (vs := [1]) (ρ := [some (.scr ns), none]) (η := []) (η1 := [])
    (fun k η' => Pu η' ∧ k ≤ 3) (fun y => y = .bl true) ((List.range m).map fun j => D.int (j : Nat)) (by
      generalize (List.range m).map (fun j => D.int (j : Nat)) = rl at *
      simp -implicitDefEqProofs [ce]) (by rw [List.length_map, List.length_range, sizeLine_eq]; omega) ⟨hη, by omega⟩ (fun d hd n η1 hn ⟨p1, _⟩ => by
      obtain ⟨j, hj, rfl⟩ := List.mem_map.mp hd
      have hj := List.mem_range.mp hj
      rw [List.length_map, List.length_range] at hn
      obtain ⟨o, s, ep, s0, s1⟩ := pot_made (ns := ns) (k := j) (by omega) p1
      have p2 : Pu (η1 ++ [M.l [.int o, .int s, .int 0]]) := pu_app p1 rfl
      have q2 : Pot (η1 ++ [M.l [.int o, .int s, .int 0]]) η1.length 0 := ⟨o, s, 0, by simp, s0, s1, by omega, by omega⟩
      obtain ⟨η2, er, p3, _⟩ := law_right_ok p2 q2 (by decide)
      exact ⟨[some (.scr ns), some (.int (j : Nat))], .bl true, η2, rfl, by simp -implicitDefEqProofs [ep, er], rfl, p3, by omega⟩)
  rw [List.length_map, List.length_range] at hl
  have hys : ys = (List.range m).map fun _ => D.bl true := by
    refine List.ext_getElem (by rw [hl, List.length_map, List.length_range]) fun j h1 h2 => ?_
    rw [hq _ (List.getElem_mem h1), List.getElem_map]
  have ab : dAll η' [.lst ys] = some (.bl true) := by
    rw [hys, all_bls (l := List.range m) (f := fun _ => true)]
    simp
  have e' : fs_law (startD 2 [.scr ns]) [] = .rt (.bl true) η' := by
    have e0 : startD 2 [.scr ns] = [some (.scr ns), none] := rfl
    have lc : law_c0 [some (.scr ns), none] [] = .ok (.lst ys) η' := e
    rw [e0]
    unfold fs_law
    have hm' : φ_how_many_walks [serD zeros, .tup [.int 1]] [] = .ok (.int 1) [] := hm
    simp -implicitDefEqProofs [e_sSeq, m0, m1, lw, hm', lc, ab]
  refine ⟨[], ?_⟩
  show exitR ([] : Store).length (fs_law (startD 2 [.scr ns]) []) = _
  rw [e']
  unfold exitR
  dsimp only
  rw [List.length_nil, List.take_zero, if_pos (show ([] : Store).all M.pure = true from rfl), frz_pure rfl]
end
theorem holds : PySem.Challenge.rw_rowunderrow_k71_whole_series_of_numbers.Holds := holds_of fun ns _ _ => law_ok ns
end K71
set_option maxRecDepth 100000 in
set_option maxHeartbeats 0 in
theorem PySem.Challenge.cw_rowunderrow_k71_whole_series_of_numbers_holds : PySem.Challenge.rw_rowunderrow_k71_whole_series_of_numbers.Holds := by
  exact K71.holds
