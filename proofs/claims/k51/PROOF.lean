import PyProof.Rows.All
import Wide.All
import OpenK.AllK
import Wide.FinOn
import HandS.ForMost
import HandS.ForExc
import HandS.Wide
import HandS.IsInst
import HandS.TupAny
import HandS.SortInts
import HandS.Conv
import HandS.Iter
import HandS.Deep
import HandS.Style
import PySem.Challenge.RW_throwstold_k51_whole_paths_among_one_ano
set_option Elab.async false
set_option linter.all false
set_option maxRecDepth 100000
set_option maxHeartbeats 4000000
namespace L4
open PySem L2

/-- a value told as data: what may change stands in the store (ref), all else is said whole -/
inductive D where
  | non | bl (b : Bool) | int (i : Int) | str (x : Str) | ref (n : Nat) | fn (x : Str) | ty (n : String)
  | tup (ds : List D) | lst (ds : List D) | scr (ns : List Int)
/-- what stands in the store -/
inductive MO where
  | gone | lst (ds : List D) | dK (kvs : List (Key × D)) | dT (kvs : List (List Key × D))
abbrev Sto := List MO
abbrev Rho := List (Option D)
/-- an exception told: its class by its name in the module -/
structure Exn where
  name : Str
inductive RE where
  | ok (d : D) (st : Sto) | exc (x : Exn) (st : Sto) | stuck
inductive RS where
  | nx (ρ : Rho) (st : Sto) | rt (d : D) (st : Sto) | bk (ρ : Rho) (st : Sto) | ct (ρ : Rho) (st : Sto) | exc (x : Exn) (ρ : Rho) (st : Sto) | stuck
abbrev E := Rho → Sto → RE
abbrev S := Rho → Sto → RS

mutual
inductive DV (K : PySem.W.Frag) (mg : Str → Option Value) (B : Hp) (m : List Addr) : D → V → Prop
  | non : DV K mg B m .non .non
  | bl (b : Bool) : DV K mg B m (.bl b) (.bl b)
  | int (i : Int) : DV K mg B m (.int i) (.int i)
  | str (x : Str) : DV K mg B m (.str x) (.str x)
  | ref {n : Nat} {a : Addr} : m[n]? = some a → DV K mg B m (.ref n) (.ref a)
  | fn {x : Str} {f : Addr} : mg x = some (.ref f) → DV K mg B m (.fn x) (.ref f)
  | ty (n : String) : DV K mg B m (.ty n) (.ty n)
  | tup {ds : List D} {a : Addr} {xs : List V} : SqT K B a xs → DVs K mg B m ds xs → DV K mg B m (.tup ds) (.ref a)
  | lst {ds : List D} {a : Addr} {xs : List V} : B a = some (.lst xs) → DVs K mg B m ds xs → DV K mg B m (.lst ds) (.ref a)
  | scr {ns : List Int} {a : Addr} : SqL K B a (ns.map V.int) → DV K mg B m (.scr ns) (.ref a)
inductive DVs (K : PySem.W.Frag) (mg : Str → Option Value) (B : Hp) (m : List Addr) : List D → List V → Prop
  | nil : DVs K mg B m [] []
  | cons {d : D} {v : V} {ds : List D} {vs : List V} : DV K mg B m d v → DVs K mg B m ds vs → DVs K mg B m (d :: ds) (v :: vs)
end

def Sub (B B' : Hp) : Prop := ∀ a o, B a = some o → B' a = some o
theorem Sub.refl (B : Hp) : Sub B B := fun _ _ h => h
theorem Sub.trans {A B C : Hp} (h : Sub A B) (k : Sub B C) : Sub A C := fun a o e => k a o (h a o e)
theorem Sub.sqT {K : PySem.W.Frag} {B B' : Hp} (s : Sub B B') {a : Addr} {xs : List V} (h : SqT K B a xs) : SqT K B' a xs := by
  rcases h with (h | ⟨o, h⟩) | h
  · exact .inl (.inl (s _ _ h))
  · exact .inl (.inr ⟨o, s _ _ h⟩)
  · exact .inr h
theorem Sub.sqL {K : PySem.W.Frag} {B B' : Hp} (s : Sub B B') {a : Addr} {xs : List V} (h : SqL K B a xs) : SqL K B' a xs := by
  rcases h with (h | ⟨o, h⟩) | h
  · exact .inl (.inl (s _ _ h))
  · exact .inl (.inr ⟨o, s _ _ h⟩)
  · exact .inr h
def Pre (m m' : List Addr) : Prop := ∃ r, m' = m ++ r
theorem Pre.refl (m : List Addr) : Pre m m := ⟨[], by simp⟩
theorem Pre.trans {a b c : List Addr} (h : Pre a b) (k : Pre b c) : Pre a c := by
  obtain ⟨r, rfl⟩ := h
  obtain ⟨q, rfl⟩ := k
  exact ⟨r ++ q, by simp⟩
theorem Pre.get {m m' : List Addr} (h : Pre m m') {n : Nat} {a : Addr} (e : m[n]? = some a) : m'[n]? = some a := by
  obtain ⟨r, rfl⟩ := h
  rw [List.getElem?_append_left (by
    have := (List.getElem?_eq_some_iff.mp e).1
    exact this)]
  exact e
theorem Pre.mem {m m' : List Addr} (h : Pre m m') {a : Addr} (e : a ∈ m) : a ∈ m' := by
  obtain ⟨r, rfl⟩ := h
  exact List.mem_append_left _ e

section
variable {K : PySem.W.Frag} {mg : Str → Option Value}
mutual
theorem DV.mono {B B' : Hp} {m m' : List Addr} (hB : Sub B B') (hm : Pre m m') : ∀ {d : D} {v : V}, DV K mg B m d v → DV K mg B' m' d v
  | _, _, .non => .non
  | _, _, .bl b => .bl b
  | _, _, .int b => .int b
  | _, _, .str b => .str b
  | _, _, .ref h => .ref (hm.get h)
  | _, _, .fn h => .fn h
  | _, _, .ty h => .ty h
  | _, _, .tup h k => .tup (hB.sqT h) (DVs.mono hB hm k)
  | _, _, .lst h k => .lst (hB _ _ h) (DVs.mono hB hm k)
  | _, _, .scr h => .scr (hB.sqL h)
theorem DVs.mono {B B' : Hp} {m m' : List Addr} (hB : Sub B B') (hm : Pre m m') : ∀ {d : List D} {v : List V}, DVs K mg B m d v → DVs K mg B' m' d v
  | _, _, .nil => .nil
  | _, _, .cons h k => .cons (DV.mono hB hm h) (DVs.mono hB hm k)
end
theorem DVs.length {B : Hp} {m : List Addr} : ∀ {ds : List D} {vs : List V}, DVs K mg B m ds vs → ds.length = vs.length
  | _, _, .nil => rfl
  | _, _, .cons _ k => by simp [DVs.length k]
theorem DVs.get {B : Hp} {m : List Addr} : ∀ {ds : List D} {vs : List V} {i : Nat} {d : D}, DVs K mg B m ds vs → ds[i]? = some d → ∃ v, vs[i]? = some v ∧ DV K mg B m d v
  | _, _, _, _, .nil, e => by simp at e
  | _, _, 0, _, .cons h k, e => by simp at e; subst e; exact ⟨_, rfl, h⟩
  | _, _, i + 1, _, .cons h k, e => by
    obtain ⟨v, h1, h2⟩ := DVs.get (i := i) k (by simpa using e)
    exact ⟨v, by simpa using h1, h2⟩
theorem DVs.get' {B : Hp} {m : List Addr} : ∀ {ds : List D} {vs : List V} {i : Nat} {v : V}, DVs K mg B m ds vs → vs[i]? = some v → ∃ d, ds[i]? = some d ∧ DV K mg B m d v
  | _, _, _, _, .nil, e => by simp at e
  | _, _, 0, _, .cons h k, e => by simp at e; subst e; exact ⟨_, rfl, h⟩
  | _, _, i + 1, _, .cons h k, e => by
    obtain ⟨v, h1, h2⟩ := DVs.get' (i := i) k (by simpa using e)
    exact ⟨v, by simpa using h1, h2⟩
theorem DVs.append {B : Hp} {m : List Addr} : ∀ {ds : List D} {vs : List V} {es : List D} {us : List V}, DVs K mg B m ds vs → DVs K mg B m es us → DVs K mg B m (ds ++ es) (vs ++ us)
  | _, _, _, _, .nil, q => q
  | _, _, _, _, .cons h k, q => .cons h (DVs.append k q)
theorem DVs.set {B : Hp} {m : List Addr} {d : D} {v : V} (hd : DV K mg B m d v) : ∀ {ds : List D} {vs : List V} (i : Nat), DVs K mg B m ds vs → DVs K mg B m (ds.set i d) (vs.set i v)
  | _, _, _, .nil => .nil
  | _, _, 0, .cons h k => .cons hd k
  | _, _, i + 1, .cons h k => .cons h (DVs.set hd i k)
theorem DVs.take {B : Hp} {m : List Addr} : ∀ {ds : List D} {vs : List V} (n : Nat), DVs K mg B m ds vs → DVs K mg B m (ds.take n) (vs.take n)
  | _, _, 0, _ => .nil
  | _, _, _ + 1, .nil => .nil
  | _, _, n + 1, .cons h k => .cons h (DVs.take n k)
theorem DVs.drop {B : Hp} {m : List Addr} : ∀ {ds : List D} {vs : List V} (n : Nat), DVs K mg B m ds vs → DVs K mg B m (ds.drop n) (vs.drop n)
  | _, _, 0, h => h
  | _, _, _ + 1, .nil => .nil
  | _, _, n + 1, .cons _ k => DVs.drop n k
theorem DVs.reverse {B : Hp} {m : List Addr} : ∀ {ds : List D} {vs : List V}, DVs K mg B m ds vs → DVs K mg B m ds.reverse vs.reverse
  | _, _, .nil => .nil
  | _, _, .cons h k => by
    rw [List.reverse_cons, List.reverse_cons]
    exact DVs.append (DVs.reverse k) (.cons h .nil)
end

/-- the pairs of a dict -/
inductive DVd {κ : Type} (K : PySem.W.Frag) (mg : Str → Option Value) (B : Hp) (m : List Addr) : List (κ × D) → List (κ × V) → Prop
  | nil : DVd K mg B m [] []
  | cons {k : κ} {d : D} {v : V} {ds : List (κ × D)} {vs : List (κ × V)} : DV K mg B m d v → DVd K mg B m ds vs → DVd K mg B m ((k, d) :: ds) ((k, v) :: vs)
theorem DVd.mono {κ : Type} {K : PySem.W.Frag} {mg : Str → Option Value} {B B' : Hp} {m m' : List Addr} (hB : Sub B B') (hm : Pre m m') : ∀ {ds : List (κ × D)} {vs : List (κ × V)}, DVd K mg B m ds vs → DVd K mg B' m' ds vs
  | _, _, .nil => .nil
  | _, _, .cons h k => .cons (h.mono hB hm) (DVd.mono hB hm k)

/-- the object of the store's entry o at a -/
def ObjAt (K : PySem.W.Frag) (mg : Str → Option Value) (B : Hp) (m : List Addr) (H : Hp) (a : Addr) : MO → Prop
  | .gone => True
  | .lst ds => B a = none ∧ ∃ xs, H a = some (.lst xs) ∧ DVs K mg B m ds xs
  | .dK kvs => B a = none ∧ ∃ xs, H a = some (.dK xs) ∧ DVd K mg B m kvs xs
  | .dT kvs => B a = none ∧ ∃ xs, H a = some (.dT xs) ∧ DVd K mg B m kvs xs
theorem ObjAt.mono {K : PySem.W.Frag} {mg : Str → Option Value} {B B' : Hp} {m m' : List Addr} {H H' : Hp} {a : Addr} {o : MO} (hB : Sub B B') (hm : Pre m m') (h : ObjAt K mg B m H a o)
    (hb : o ≠ .gone → B a = none → B' a = none) (hh : ∀ x, H a = some x → H' a = some x) : ObjAt K mg B' m' H' a o := by
  cases o with
  | gone => trivial
  | lst ds => obtain ⟨h0, xs, h1, h2⟩ := h; exact ⟨hb (by simp) h0, xs, hh _ h1, h2.mono hB hm⟩
  | dK ds => obtain ⟨h0, xs, h1, h2⟩ := h; exact ⟨hb (by simp) h0, xs, hh _ h1, h2.mono hB hm⟩
  | dT ds => obtain ⟨h0, xs, h1, h2⟩ := h; exact ⟨hb (by simp) h0, xs, hh _ h1, h2.mono hB hm⟩

structure Sim (K : PySem.W.Frag) (mg : Str → Option Value) (B : Hp) (m : List Addr) (st : Sto) (H : Hp) : Prop where
  sub : Sub B H
  len : m.length = st.length
  nd : m.Nodup
  obj : ∀ (n : Nat) (a : Addr) (o : MO), m[n]? = some a → st[n]? = some o → ObjAt K mg B m H a o
  own : ∀ a ∈ m, ∃ o, H a = some o

structure Ext (B : Hp) (m : List Addr) (H : Hp) (B' : Hp) (m' : List Addr) (H' : Hp) : Prop where
  bb : Sub B B'
  bn : ∀ a o, B' a = some o → B a = none → H a = none ∨ a ∈ m
  mm : Pre m m'
  mn : ∀ a ∈ m', a ∈ m ∨ H a = none
  fr : ∀ a o, H a = some o → a ∉ m → H' a = some o
  st : ∀ a o, H a = some o → ∃ o', H' a = some o'
theorem Ext.refl (B : Hp) (m : List Addr) (H : Hp) : Ext B m H B m H :=
  ⟨Sub.refl B, fun a o h n => absurd (h.symm.trans n) (by simp), Pre.refl m, fun a h => .inl h, fun a o h _ => h, fun a o h => ⟨o, h⟩⟩
theorem none_of {H H' : Hp} (h : ∀ a o, H a = some o → ∃ o', H' a = some o') {a : Addr} (e : H' a = none) : H a = none := by
  cases q : H a with
  | none => rfl
  | some o =>
    obtain ⟨o', k⟩ := h a o q
    rw [e] at k; cases k
theorem Ext.trans {B B1 B2 : Hp} {m m1 m2 : List Addr} {H H1 H2 : Hp} (x : Ext B m H B1 m1 H1) (y : Ext B1 m1 H1 B2 m2 H2) : Ext B m H B2 m2 H2 where
  bb := x.bb.trans y.bb
  bn := fun a o h n => by
    cases q : B1 a with
    | none =>
      rcases y.bn a o h q with k | k
      · exact .inl (none_of x.st k)
      · exact (x.mn a k).symm
    | some u => exact x.bn a u q n
  mm := x.mm.trans y.mm
  mn := fun a h => by
    rcases y.mn a h with k | k
    · exact x.mn a k
    · exact .inr (none_of x.st k)
  fr := fun a o h n => by
    have h1 := x.fr a o h n
    refine y.fr a o h1 fun k => ?_
    rcases x.mn a k with z | z
    · exact n z
    · rw [h] at z; cases z
  st := fun a o h => by
    obtain ⟨o1, h1⟩ := x.st a o h
    exact y.st a o1 h1

def SlR (K : PySem.W.Frag) (mg : Str → Option Value) (B : Hp) (m : List Addr) (ρ : Rho) (σ : St) : Prop :=
  ρ.length = σ.length ∧ ∀ (i : Nat) (d : D), ρ[i]? = some (some d) → ∃ v, σ[i]? = some (some v) ∧ DV K mg B m d v
theorem SlR.mono {K : PySem.W.Frag} {mg : Str → Option Value} {B B' : Hp} {m m' : List Addr} {ρ : Rho} {σ : St} (hB : Sub B B') (hm : Pre m m') (h : SlR K mg B m ρ σ) : SlR K mg B' m' ρ σ :=
  ⟨h.1, fun i d e => by
    obtain ⟨v, h1, h2⟩ := h.2 i d e
    exact ⟨v, h1, h2.mono hB hm⟩⟩
theorem SlR.set {K : PySem.W.Frag} {mg : Str → Option Value} {B : Hp} {m : List Addr} {ρ : Rho} {σ : St} {d : D} {v : V} (h : SlR K mg B m ρ σ) (hd : DV K mg B m d v) (i : Nat) : SlR K mg B m (ρ.set i (some d)) (σ.set i (some v)) := by
  refine ⟨by rw [List.length_set, List.length_set]; exact h.1, fun j e q => ?_⟩
  by_cases hj : i = j
  · subst hj
    by_cases hi : i < ρ.length
    · rw [List.getElem?_set_self hi] at q
      cases q
      exact ⟨v, by rw [List.getElem?_set_self (by rw [← h.1]; exact hi)], hd⟩
    · rw [List.getElem?_eq_none (by rw [List.length_set]; omega)] at q
      cases q
  · rw [List.getElem?_set_ne hj] at q ⊢
    exact h.2 j e q

/-! ### the store's steps -/
section
variable {K : PySem.W.Frag} {mg : Str → Option Value} {B : Hp} {m : List Addr} {st : Sto} {H : Hp}
theorem Sim.bnone (s : Sim K mg B m st H) {p : Addr} (hp : H p = none) : B p = none := by
  cases q : B p with
  | none => rfl
  | some o => rw [s.sub p o q] at hp; cases hp
theorem Sim.pm (s : Sim K mg B m st H) {p : Addr} (hp : H p = none) : p ∉ m := fun k => by
  obtain ⟨o, h⟩ := s.own p k
  rw [hp] at h; cases h
theorem Sim.ext_newB (s : Sim K mg B m st H) {p : Addr} {o : HO} (hp : H p = none) : Ext B m H (upd B p o) m (upd H p o) where
  bb := fun a u h => by rw [upd_ne (ne_of_none h (s.bnone hp))]; exact h
  bn := fun a u h n => by
    by_cases e : a = p
    · subst e; exact .inl hp
    · rw [upd_ne e, n] at h; cases h
  mm := Pre.refl m
  mn := fun a h => .inl h
  fr := fun a u h _ => by rw [upd_ne (ne_of_none h hp)]; exact h
  st := fun a u h => ⟨u, by rw [upd_ne (ne_of_none h hp)]; exact h⟩
/-- a new object that never changes -/
theorem Sim.newB (s : Sim K mg B m st H) {p : Addr} {o : HO} (hp : H p = none) : Sim K mg (upd B p o) m st (upd H p o) where
  sub := fun a u h => by
    by_cases e : a = p
    · subst e; rw [upd_same] at h ⊢; exact h
    · rw [upd_ne e] at h ⊢; exact s.sub a u h
  len := s.len
  nd := s.nd
  obj := fun n a o' h1 h2 => by
    have hne : a ≠ p := fun e => s.pm hp (e ▸ List.mem_of_getElem? h1)
    exact (s.obj n a o' h1 h2).mono (s.ext_newB (o := o) hp).bb (Pre.refl m) (fun _ h => by rw [upd_ne hne]; exact h) fun x h => by rw [upd_ne hne]; exact h
  own := fun a h => by
    obtain ⟨o', k⟩ := s.own a h
    exact ⟨o', by rw [upd_ne (ne_of_none k hp)]; exact k⟩
theorem Sim.ext_newM (s : Sim K mg B m st H) {p : Addr} {o : HO} (hp : H p = none) : Ext B m H B (m ++ [p]) (upd H p o) where
  bb := Sub.refl B
  bn := fun a u h n => by rw [h] at n; cases n
  mm := ⟨[p], rfl⟩
  mn := fun a h => by
    rcases List.mem_append.mp h with k | k
    · exact .inl k
    · rw [List.mem_singleton] at k; subst k; exact .inr hp
  fr := fun a u h _ => by rw [upd_ne (ne_of_none h hp)]; exact h
  st := fun a u h => ⟨u, by rw [upd_ne (ne_of_none h hp)]; exact h⟩
/-- a new object in the store -/
theorem Sim.newM (s : Sim K mg B m st H) {p : Addr} {o : HO} {mo : MO} (hp : H p = none) (h : ObjAt K mg B (m ++ [p]) (upd H p o) p mo) : Sim K mg B (m ++ [p]) (st ++ [mo]) (upd H p o) where
  sub := fun a u h => by rw [upd_ne (ne_of_none h (s.bnone hp))]; exact s.sub a u h
  len := by simp [s.len]
  nd := by
    rw [List.nodup_append]
    refine ⟨s.nd, by simp, fun a ha b hb => ?_⟩
    rw [List.mem_singleton] at hb
    subst hb
    exact fun e => s.pm hp (e ▸ ha)
  obj := fun n a o' h1 h2 => by
    by_cases hn : n < m.length
    · rw [List.getElem?_append_left hn] at h1
      rw [List.getElem?_append_left (by rw [← s.len]; exact hn)] at h2
      have hne : a ≠ p := fun e => s.pm hp (e ▸ List.mem_of_getElem? h1)
      exact (s.obj n a o' h1 h2).mono (Sub.refl B) ⟨[p], rfl⟩ (fun _ h => h) fun x h => by rw [upd_ne hne]; exact h
    · rw [List.getElem?_append_right (by omega)] at h1
      rw [List.getElem?_append_right (by rw [← s.len]; omega)] at h2
      rw [s.len] at h1
      cases hk : n - st.length with
      | zero =>
        rw [hk] at h1 h2
        simp at h1 h2
        subst h1; subst h2
        exact h
      | succ k => rw [hk] at h1; simp at h1
  own := fun a h => by
    rcases List.mem_append.mp h with k | k
    · obtain ⟨o', q⟩ := s.own a k
      exact ⟨o', by rw [upd_ne (ne_of_none q hp)]; exact q⟩
    · rw [List.mem_singleton] at k; subst k; exact ⟨o, upd_same⟩
theorem nd_get {m : List Addr} (nd : m.Nodup) {i j : Nat} {a : Addr} (h1 : m[i]? = some a) (h2 : m[j]? = some a) : i = j := nd_ix nd h1 h2
theorem ext_setM {a : Addr} {o : HO} {n : Nat} (ha : m[n]? = some a) : Ext B m H B m (upd H a o) where
  bb := Sub.refl B
  bn := fun a u h n => by rw [h] at n; cases n
  mm := Pre.refl m
  mn := fun a h => .inl h
  fr := fun b u h hb => by rw [upd_ne (show b ≠ a from fun e => hb (by rw [e]; exact List.mem_of_getElem? ha))]; exact h
  st := fun b u h => by
    by_cases e : b = a
    · subst e; exact ⟨o, upd_same⟩
    · exact ⟨u, by rw [upd_ne e]; exact h⟩
/-- the entry n is changed -/
theorem Sim.setM (s : Sim K mg B m st H) {a : Addr} {o : HO} {mo : MO} {n : Nat} (ha : m[n]? = some a) (hB : B a = none) (h : ObjAt K mg B m (upd H a o) a mo) : Sim K mg B m (st.set n mo) (upd H a o) where
  sub := fun b u h => by rw [upd_ne (ne_of_none h hB)]; exact s.sub b u h
  len := by rw [List.length_set]; exact s.len
  nd := s.nd
  obj := fun i b o' h1 h2 => by
    by_cases e : n = i
    · subst e
      rw [ha] at h1
      cases h1
      rw [List.getElem?_set_self (by rw [← s.len]; exact (List.getElem?_eq_some_iff.mp ha).1)] at h2
      cases h2
      exact h
    · rw [List.getElem?_set_ne e] at h2
      have hne : b ≠ a := fun k => e (nd_get s.nd ha (k ▸ h1))
      exact (s.obj i b o' h1 h2).mono (Sub.refl B) (Pre.refl m) (fun _ h => h) fun x h => by rw [upd_ne hne]; exact h
  own := fun b h => by
    by_cases e : b = a
    · subst e; exact ⟨o, upd_same⟩
    · obtain ⟨u, k⟩ := s.own b h
      exact ⟨u, by rw [upd_ne e]; exact k⟩
/-- the entry n is told whole from here on -/
theorem Sim.freeze (s : Sim K mg B m st H) {a : Addr} {o : HO} {n : Nat} (ha : m[n]? = some a) (hH : H a = some o) (hB : B a = none) : Sim K mg (upd B a o) m (st.set n .gone) H ∧ Ext B m H (upd B a o) m H := by
  have hb : Sub B (upd B a o) := fun b u h => by rw [upd_ne (ne_of_none h hB)]; exact h
  refine ⟨⟨fun b u h => ?_, by rw [List.length_set]; exact s.len, s.nd, fun i b o' h1 h2 => ?_, s.own⟩, ⟨hb, fun b u h k => ?_, Pre.refl m, fun b h => .inl h, fun b u h _ => h, fun b u h => ⟨u, h⟩⟩⟩
  · by_cases e : b = a
    · subst e; rw [upd_same] at h; cases h; exact hH
    · rw [upd_ne e] at h; exact s.sub b u h
  · by_cases e : n = i
    · subst e
      rw [List.getElem?_set_self (by rw [← s.len]; exact (List.getElem?_eq_some_iff.mp ha).1)] at h2
      cases h2
      trivial
    · rw [List.getElem?_set_ne e] at h2
      have hne : b ≠ a := fun k => e (nd_get s.nd ha (k ▸ h1))
      exact (s.obj i b o' h1 h2).mono hb (Pre.refl m) (fun _ h => by rw [upd_ne hne]; exact h) fun x h => h
  · by_cases e : b = a
    · subst e; exact .inr (List.mem_of_getElem? ha)
    · rw [upd_ne e, k] at h; cases h
end

/-! ### what is reached -/
section
variable (X : Cx)
structure Stt (B : Hp) (m : List Addr) (ρ : Rho) (st : Sto) (σ : St) (H : Hp) : Prop where
  sim : Sim X.K X.mg B m st H
  sl : SlR X.K X.mg B m ρ σ
def ExcR (x : Exn) (cls : Value) (d : Option Addr) (_ : Hp) : Prop := d = none ∧ ∃ C, X.mg x.name = some (.ref C) ∧ cls = .ref C
/-- an exception is let out as W wishes -/
def PostX (W : WX) (B : Hp) (m : List Addr) (H : Hp) (x : Exn) (ρ : Rho) (st : Sto) : Prop :=
  ∀ cls d B' m' σ' H', Ext B m H B' m' H' → Stt X B' m' ρ st σ' H' → ExcR X x cls d H' → W cls d σ' H'
def PostE (W : WX) (B : Hp) (m : List Addr) (H : Hp) (ρ : Rho) (σ : St) (Q : VK) : RE → Prop
  | .ok d st => ∀ v B' m' H', Ext B m H B' m' H' → Stt X B' m' ρ st σ H' → DV X.K X.mg B' m' d v → Q v H'
  | .exc x st => PostX X W B m H x ρ st
  | .stuck => False
def tE (W : WX) (f : E) : TE := fun σ H Q => ∃ B m ρ st, Stt X B m ρ st σ H ∧ PostE X W B m H ρ σ Q (f ρ st)
abbrev SE (W : WX) (e : Expr) (f : E) : Prop := PE X e (tE X W f)
def PostS (W : WX) (B : Hp) (m : List Addr) (H : Hp) (Dn : Ends) : RS → Prop
  | .nx ρ st => ∀ B' m' σ' H', Ext B m H B' m' H' → Stt X B' m' ρ st σ' H' → Dn.nx σ' H'
  | .bk ρ st => ∀ B' m' σ' H', Ext B m H B' m' H' → Stt X B' m' ρ st σ' H' → Dn.bk σ' H'
  | .ct ρ st => ∀ B' m' σ' H', Ext B m H B' m' H' → Stt X B' m' ρ st σ' H' → Dn.ct σ' H'
  | .rt d st => ∀ v B' m' H', Ext B m H B' m' H' → Sim X.K X.mg B' m' st H' → DV X.K X.mg B' m' d v → Dn.rt v H'
  | .exc x ρ st => PostX X W B m H x ρ st
  | .stuck => False
def tS (W : WX) (g : S) : TS := fun Dn σ H => ∃ B m ρ st, Stt X B m ρ st σ H ∧ PostS X W B m H Dn (g ρ st)
abbrev SS (W : WX) (e : Stmt) (f : S) : Prop := PS X e (tS X W f)
abbrev SSs (W : WX) (e : List Stmt) (f : S) : Prop := PSs X e (tS X W f)
end
section
variable {X : Cx} {W : WX} {B B' : Hp} {m m' : List Addr} {ρ ρ' : Rho} {st st' : Sto} {σ σ' : St} {H H' : Hp} {Q : VK}
theorem PostX.ext (e : Ext B m H B' m' H') {x : Exn} (h : PostX X W B m H x ρ st) : PostX X W B' m' H' x ρ st :=
  fun cls d B2 m2 σ2 H2 e2 s x => h cls d B2 m2 σ2 H2 (e.trans e2) s x
theorem PostS.ext (e : Ext B m H B' m' H') {Dn : Ends} : ∀ {r : RS}, PostS X W B m H Dn r → PostS X W B' m' H' Dn r
  | .nx _ _, h => fun B2 m2 σ2 H2 e2 s => h B2 m2 σ2 H2 (e.trans e2) s
  | .bk _ _, h => fun B2 m2 σ2 H2 e2 s => h B2 m2 σ2 H2 (e.trans e2) s
  | .ct _ _, h => fun B2 m2 σ2 H2 e2 s => h B2 m2 σ2 H2 (e.trans e2) s
  | .rt _ _, h => fun v B2 m2 H2 e2 s => h v B2 m2 H2 (e.trans e2) s
  | .exc _ _ _, h => PostX.ext e h
  | .stuck, h => h
theorem PostE.ext (e : Ext B m H B' m' H') : ∀ {r : RE}, PostE X W B m H ρ σ Q r → PostE X W B' m' H' ρ σ Q r
  | .ok _ _, h => fun v B2 m2 H2 e2 s => h v B2 m2 H2 (e.trans e2) s
  | .exc _ _, h => PostX.ext e h
  | .stuck, h => h
theorem Stt.mono (s : Stt X B m ρ st σ H) (e : Ext B m H B' m' H') (k : Sim X.K X.mg B' m' st' H') : Stt X B' m' ρ st' σ H' := ⟨k, s.sl.mono e.bb e.mm⟩
theorem _root_.L2.PE.weak {e : Expr} {t t' : TE} (h : PE X e t) (w : ∀ σ H Q, t' σ H Q → t σ H Q) : PE X e t' := ⟨fun pins s σ H Q I q => h.run pins s σ H Q I (w σ H Q q)⟩
theorem _root_.L2.PT.weak {e : Expr} {t t' : TT} (h : PT X e t) (w : ∀ σ H Q, t' σ H Q → t σ H Q) : PT X e t' := ⟨fun pins s σ H Q I q => h.run pins s σ H Q I (w σ H Q q)⟩
theorem _root_.L2.PA.weak {e : List Expr} {t t' : TA} (h : PA X e t) (w : ∀ σ H Q, t' σ H Q → t σ H Q) : PA X e t' := ⟨fun pos pins s σ H Q I q => h.run pos pins s σ H Q I (w σ H Q q)⟩
theorem _root_.L2.PS.weak {e : Stmt} {t t' : TS} (h : PS X e t) (w : ∀ Dn σ H, t' Dn σ H → t Dn σ H) : PS X e t' := ⟨fun pins s σ H Q I q => h.run pins s σ H Q I (w Q σ H q)⟩
theorem _root_.L2.PSs.weak {e : List Stmt} {t t' : TS} (h : PSs X e t) (w : ∀ Dn σ H, t' Dn σ H → t Dn σ H) : PSs X e t' := ⟨fun pins s σ H Q I q => h.run pins s σ H Q I (w Q σ H q)⟩
theorem _root_.L2.PI.weak {tg e : Expr} {t t' : TI} (h : PI X tg e t) (w : ∀ σ H R, t' σ H R → t σ H R) : PI X tg e t' := ⟨fun pins s σ H Q I q => h.run pins s σ H Q I (w σ H Q q)⟩
end
end L4
namespace L4
open PySem L2

def RE.bind (r : RE) (k : D → Sto → RE) : RE := match r with
  | .ok d st => k d st
  | .exc x st => .exc x st
  | .stuck => .stuck
def RE.of (o : Option D) (st : Sto) : RE := match o with
  | some d => .ok d st
  | none => .stuck
def RE.of2 (o : Option (D × Sto)) : RE := match o with
  | some (d, st) => .ok d st
  | none => .stuck
/-! ### what an expression is worth -/
def eV (i : Nat) : E := fun ρ st => match ρ[i]? with
  | some (some d) => .ok d st
  | _ => .stuck
def eC (d : D) : E := fun _ st => .ok d st
def e1 (g : D → Sto → Option D) (a : E) : E := fun ρ st => (a ρ st).bind fun x st1 => RE.of (g x st1) st1
def e2 (g : D → D → Sto → Option D) (a b : E) : E := fun ρ st => (a ρ st).bind fun x st1 => (b ρ st1).bind fun y st2 => RE.of (g x y st2) st2
inductive RA where
  | ok (ds : List D) (st : Sto) | exc (x : Exn) (st : Sto) | stuck
abbrev EA := Rho → Sto → RA
def RA.bind (r : RA) (k : List D → Sto → RE) : RE := match r with
  | .ok d st => k d st
  | .exc x st => .exc x st
  | .stuck => .stuck
def aNil : EA := fun _ st => .ok [] st
def aCons (a : E) (as : EA) : EA := fun ρ st => match a ρ st with
  | .ok d st1 => (match as ρ st1 with
    | .ok ds st2 => .ok (d :: ds) st2
    | .exc x s => .exc x s
    | .stuck => .stuck)
  | .exc x s => .exc x s
  | .stuck => .stuck
def eN (g : List D → Sto → Option (D × Sto)) (as : EA) : E := fun ρ st => (as ρ st).bind fun ds st1 => RE.of2 (g ds st1)
def eTup (as : EA) : E := fun ρ st => (as ρ st).bind fun ds st1 => if ds.length ≤ 1000000 then .ok (.tup ds) st1 else .stuck
def eLst (as : EA) : E := fun ρ st => (as ρ st).bind fun ds st1 => if ds.length ≤ 1000000 then .ok (.lst ds) st1 else .stuck
def eLstM (as : EA) : E := fun ρ st => (as ρ st).bind fun ds st1 => if ds.length ≤ 1000000 then .ok (.ref st1.length) (st1 ++ [.lst ds]) else .stuck
def eIf (c a b : E) : E := fun ρ st => (c ρ st).bind fun d st1 => match d with
  | .bl true => a ρ st1
  | .bl false => b ρ st1
  | _ => .stuck
def eAnd (a b : E) : E := fun ρ st => (a ρ st).bind fun d st1 => match d with
  | .bl true => b ρ st1
  | .bl false => .ok (.bl false) st1
  | _ => .stuck
def eOr (a b : E) : E := fun ρ st => (a ρ st).bind fun d st1 => match d with
  | .bl true => .ok (.bl true) st1
  | .bl false => b ρ st1
  | _ => .stuck
def eNot (a : E) : E := fun ρ st => (a ρ st).bind fun d st1 => match d with
  | .bl b => .ok (.bl (!b)) st1
  | _ => .stuck
def eChain (g g' : D → D → Sto → Option D) (a b c : E) : E := fun ρ st => (a ρ st).bind fun x st1 => (b ρ st1).bind fun y st2 => (RE.of (g x y st2) st2).bind fun z st3 => match z with
  | .bl true => (c ρ st3).bind fun w st4 => RE.of (g' y w st4) st4
  | .bl false => .ok (.bl false) st3
  | _ => .stuck

section
variable {X : Cx} {W : WX} {B B' : Hp} {m m' : List Addr} {ρ ρ' : Rho} {st st' : Sto} {σ σ' : St} {H H' : Hp} {Q Q' : VK} {e a b c : Expr} {fa fb fc : E}
theorem PostE.mono {r : RE} (h : PostE X W B m H ρ σ Q r) (k : ∀ v H', Q v H' → Q' v H') : PostE X W B m H ρ σ Q' r := by
  cases r with
  | ok d st => exact fun v B' m' H' e s dv => k v H' (h v B' m' H' e s dv)
  | exc x st => exact h
  | stuck => exact h
/-- a part is reached, the rest is still to come -/
def Mid (X : Cx) (W : WX) (B : Hp) (m : List Addr) (H : Hp) (ρ : Rho) (σ : St) (Q : VK) (k : D → Sto → RE) (v : V) (H1 : Hp) : Prop :=
  ∃ B1 m1 st1 d, Ext B m H B1 m1 H1 ∧ Stt X B1 m1 ρ st1 σ H1 ∧ DV X.K X.mg B1 m1 d v ∧ PostE X W B1 m1 H1 ρ σ Q (k d st1)
theorem PostE.bind {r : RE} {k : D → Sto → RE} (h : PostE X W B m H ρ σ Q (r.bind k)) : PostE X W B m H ρ σ (Mid X W B m H ρ σ Q k) r := by
  cases r with
  | ok d st => exact fun v B1 m1 H1 e s dv => ⟨B1, m1, st, d, e, s, dv, PostE.ext e h⟩
  | exc x st => exact h
  | stuck => exact h
theorem PostE.of {o : Option D} (h : PostE X W B m H ρ σ Q (RE.of o st)) : ∃ d, o = some d ∧ ∀ v B' m' H', Ext B m H B' m' H' → Stt X B' m' ρ st σ H' → DV X.K X.mg B' m' d v → Q v H' := by
  cases o with
  | some d => exact ⟨d, rfl, h⟩
  | none => exact h.elim
theorem PostE.ok {d : D} {v : V} (s : Stt X B m ρ st σ H) (dv : DV X.K X.mg B m d v) (h : PostE X W B m H ρ σ Q (.ok d st)) : Q v H := h v B m H (Ext.refl B m H) s dv

/-! ### names, constants -/
theorem r_v {i : Nat} (h : PE X e (tVar i)) : SE X W e (eV i) := h.weak fun σ H Q ⟨B, m, ρ, st, s, q⟩ => by
  unfold eV at q
  split at q
  · rename_i d hd
    obtain ⟨v, h1, h2⟩ := s.sl.2 i d hd
    exact ⟨v, h1, PostE.ok s h2 q⟩
  · exact q.elim
theorem r_c {d : D} {v : V} (h : PE X e (tC v)) (dv : ∀ B m, DV X.K X.mg B m d v) : SE X W e (eC d) := h.weak fun σ H Q ⟨B, m, ρ, st, s, q⟩ => PostE.ok s (dv B m) q

/-! ### operators -/
def Op1 (X : Cx) (r : V → Hp → VK → Prop) (g : D → Sto → Option D) : Prop :=
  ∀ (B : Hp) (m : List Addr) (st : Sto) (H : Hp) (x : D) (u : V) (d : D) (Q : VK), Sim X.K X.mg B m st H → DV X.K X.mg B m x u → g x st = some d →
    (∀ v B' H', Ext B m H B' m H' → Sim X.K X.mg B' m st H' → DV X.K X.mg B' m d v → Q v H') → r u H Q
def Op2 (X : Cx) (r : R2) (g : D → D → Sto → Option D) : Prop :=
  ∀ (B : Hp) (m : List Addr) (st : Sto) (H : Hp) (x y : D) (u w : V) (d : D) (Q : VK), Sim X.K X.mg B m st H → DV X.K X.mg B m x u → DV X.K X.mg B m y w → g x y st = some d →
    (∀ v B' H', Ext B m H B' m H' → Sim X.K X.mg B' m st H' → DV X.K X.mg B' m d v → Q v H') → r u w H Q
def OpN (X : Cx) (r : List V → Hp → VK → Prop) (g : List D → Sto → Option (D × Sto)) : Prop :=
  ∀ (B : Hp) (m : List Addr) (st : Sto) (H : Hp) (xs : List D) (us : List V) (d : D) (st' : Sto) (Q : VK), Sim X.K X.mg B m st H → DVs X.K X.mg B m xs us → g xs st = some (d, st') →
    (∀ v B' m' H', Ext B m H B' m' H' → Sim X.K X.mg B' m' st' H' → DV X.K X.mg B' m' d v → Q v H') → r us H Q
theorem r_e1 {r : V → Hp → VK → Prop} {g : D → Sto → Option D} (hr : ∀ {ta : TE}, PE X a ta → PE X e (tUn r ta)) (ho : Op1 X r g) (ha : SE X W a fa) : SE X W e (e1 g fa) :=
  (hr ha).weak fun σ H Q ⟨B, m, ρ, st, s, q⟩ => ⟨B, m, ρ, st, s, q.bind.mono fun v H1 ⟨B1, m1, st1, d, x1, s1, dv, q1⟩ => by
    obtain ⟨z, hz, q1⟩ := q1.of
    exact ho _ _ _ _ _ _ _ _ s1.sim dv hz fun v' B' H' x2 k2 dv2 => q1 v' B' m1 H' x2 (s1.mono x2 k2) dv2⟩
theorem r_e2 {r : R2} {g : D → D → Sto → Option D} (hr : ∀ {ta tb : TE}, PE X a ta → PE X b tb → PE X e (tOp r ta tb)) (ho : Op2 X r g) (ha : SE X W a fa) (hb : SE X W b fb) : SE X W e (e2 g fa fb) :=
  (hr ha hb).weak fun σ H Q ⟨B, m, ρ, st, s, q⟩ => ⟨B, m, ρ, st, s, q.bind.mono fun v H1 ⟨B1, m1, st1, d, x1, s1, dv, q1⟩ =>
    ⟨B1, m1, ρ, st1, s1, q1.bind.mono fun w H2 ⟨B2, m2, st2, d2, x2, s2, dw, q2⟩ => by
      obtain ⟨z, hz, q2⟩ := q2.of
      exact ho _ _ _ _ _ _ _ _ _ _ s2.sim (dv.mono x2.bb x2.mm) dw hz fun v' B' H' x3 k3 dv3 => q2 v' B' m2 H' x3 (s2.mono x3 k3) dv3⟩⟩

/-! ### argument lists -/
def PostA (X : Cx) (W : WX) (B : Hp) (m : List Addr) (H : Hp) (ρ : Rho) (σ : St) (Q : List V → Hp → Prop) : RA → Prop
  | .ok d st => ∀ v B' m' H', Ext B m H B' m' H' → Stt X B' m' ρ st σ H' → DVs X.K X.mg B' m' d v → Q v H'
  | .exc x st => PostX X W B m H x ρ st
  | .stuck => False
def tA (X : Cx) (W : WX) (f : EA) : TA := fun σ H Q => ∃ B m ρ st, Stt X B m ρ st σ H ∧ PostA X W B m H ρ σ Q (f ρ st)
abbrev SA (X : Cx) (W : WX) (es : List Expr) (f : EA) : Prop := PA X es (tA X W f)
theorem PostA.ext {Q : List V → Hp → Prop} (e : Ext B m H B' m' H') : ∀ {r : RA}, PostA X W B m H ρ σ Q r → PostA X W B' m' H' ρ σ Q r
  | .ok _ _, h => fun v B2 m2 H2 e2 s => h v B2 m2 H2 (e.trans e2) s
  | .exc _ _, h => PostX.ext e h
  | .stuck, h => h
theorem PostA.mono {Q Q' : List V → Hp → Prop} {r : RA} (h : PostA X W B m H ρ σ Q r) (k : ∀ v H', Q v H' → Q' v H') : PostA X W B m H ρ σ Q' r := by
  cases r with
  | ok d st => exact fun v B' m' H' e s dv => k v H' (h v B' m' H' e s dv)
  | exc x st => exact h
  | stuck => exact h
def MidA (X : Cx) (W : WX) (B : Hp) (m : List Addr) (H : Hp) (ρ : Rho) (σ : St) (Q : VK) (k : List D → Sto → RE) (vs : List V) (H1 : Hp) : Prop :=
  ∃ B1 m1 st1 ds, Ext B m H B1 m1 H1 ∧ Stt X B1 m1 ρ st1 σ H1 ∧ DVs X.K X.mg B1 m1 ds vs ∧ PostE X W B1 m1 H1 ρ σ Q (k ds st1)
theorem PostE.bindA {r : RA} {k : List D → Sto → RE} (h : PostE X W B m H ρ σ Q (r.bind k)) : PostA X W B m H ρ σ (MidA X W B m H ρ σ Q k) r := by
  cases r with
  | ok d st => exact fun v B1 m1 H1 e s dv => ⟨B1, m1, st, d, e, s, dv, PostE.ext e h⟩
  | exc x st => exact h
  | stuck => exact h
theorem ra_nil : SA X W [] aNil := pa_nil.weak fun σ H Q ⟨B, m, ρ, st, s, q⟩ => q [] B m H (Ext.refl B m H) s .nil
theorem ra_cons {es : List Expr} {fs : EA} (ha : SE X W e fa) (hr : SA X W es fs) (hs : starEach (e :: es) X.env = (false, eval e X.env) :: starEach es X.env := by rfl) : SA X W (e :: es) (aCons fa fs) :=
  (pa_cons ha hr hs).weak fun σ H Q ⟨B, m, ρ, st, s, q⟩ => by
    refine ⟨B, m, ρ, st, s, ?_⟩
    unfold aCons at q
    cases h1 : fa ρ st with
    | ok d st1 =>
      rw [h1] at q
      dsimp only at q
      refine fun v B1 m1 H1 x1 s1 dv => ⟨B1, m1, ρ, st1, s1, ?_⟩
      have q := PostA.ext x1 q
      revert q
      cases h2 : fs ρ st1 with
      | ok ds st2 => exact fun q vs B2 m2 H2 x2 s2 dvs => q (v :: vs) B2 m2 H2 x2 s2 (.cons (dv.mono x2.bb x2.mm) dvs)
      | exc x s' => exact fun q => q
      | stuck => exact fun q => q
    | exc x s' => rw [h1] at q; exact q
    | stuck => rw [h1] at q; exact q.elim
theorem r_eN {r : List V → Hp → VK → Prop} {g : List D → Sto → Option (D × Sto)} {es : List Expr} {fs : EA} (hr : ∀ {ta : TA}, PA X es ta → PE X e (tCB r ta)) (ho : OpN X r g) (ha : SA X W es fs) : SE X W e (eN g fs) :=
  (hr ha).weak fun σ H Q ⟨B, m, ρ, st, s, q⟩ => ⟨B, m, ρ, st, s, q.bindA.mono fun v H1 ⟨B1, m1, st1, d, x1, s1, dv, q1⟩ => by
    show r v H1 Q
    dsimp only at q1
    cases hg : g d st1 with
    | none => rw [hg] at q1; exact q1.elim
    | some p =>
      obtain ⟨z, st2⟩ := p
      rw [hg] at q1
      exact ho _ _ _ _ _ _ _ _ _ s1.sim dv hg fun v' B' m' H' x2 k2 dv2 => q1 v' B' m' H' x2 (s1.mono x2 k2) dv2⟩
theorem le_line {n : Nat} (h : n ≤ 1000000) : n ≤ sizeLine := Nat.le_trans h (by decide)
theorem lt_line {n : Nat} (h : n ≤ 1000000) : n < sizeLine := Nat.lt_of_le_of_lt h (by decide)
theorem dv_newT {K : PySem.W.Frag} {mg : Str → Option Value} {ds : List D} {vs : List V} {p : Addr} (s : Sim K mg B m st H) (hp : H p = none) (dv : DVs K mg B m ds vs) : DV K mg (upd B p (.tup vs)) m (.tup ds) (.ref p) :=
  .tup (SqT.of upd_same) (dv.mono (s.ext_newB (o := .tup vs) hp).bb (Pre.refl m))
theorem dv_newL {K : PySem.W.Frag} {mg : Str → Option Value} {ds : List D} {vs : List V} {p : Addr} (s : Sim K mg B m st H) (hp : H p = none) (dv : DVs K mg B m ds vs) : DV K mg (upd B p (.lst vs)) m (.lst ds) (.ref p) :=
  .lst upd_same (dv.mono (s.ext_newB (o := .lst vs) hp).bb (Pre.refl m))
theorem r_tup {es : List Expr} {fs : EA} {x1 pos} (ha : SA X W es fs) : SE X W (.Tuple es x1 pos) (eTup fs) :=
  (pe_tup ha).weak fun σ H Q ⟨B, m, ρ, st, s, q⟩ => ⟨B, m, ρ, st, s, q.bindA.mono fun v H1 ⟨B1, m1, st1, d, x1, s1, dv, q1⟩ => by
    dsimp only at q1
    by_cases hl : d.length ≤ 1000000
    · rw [if_pos hl] at q1
      exact ⟨le_line (by rw [← dv.length]; exact hl), fun p hp => q1 _ _ _ _ (s1.sim.ext_newB hp) (s1.mono (s1.sim.ext_newB hp) (s1.sim.newB hp)) (dv_newT s1.sim hp dv)⟩
    · rw [if_neg hl] at q1
      exact q1.elim⟩
theorem r_lst {es : List Expr} {fs : EA} {pos} (ha : SA X W es fs) : SE X W (.List es pos) (eLst fs) :=
  (pe_lst ha).weak fun σ H Q ⟨B, m, ρ, st, s, q⟩ => ⟨B, m, ρ, st, s, q.bindA.mono fun v H1 ⟨B1, m1, st1, d, x1, s1, dv, q1⟩ => by
    dsimp only at q1
    by_cases hl : d.length ≤ 1000000
    · rw [if_pos hl] at q1
      exact ⟨le_line (by rw [← dv.length]; exact hl), fun p hp => q1 _ _ _ _ (s1.sim.ext_newB hp) (s1.mono (s1.sim.ext_newB hp) (s1.sim.newB hp)) (dv_newL s1.sim hp dv)⟩
    · rw [if_neg hl] at q1
      exact q1.elim⟩
theorem oa_lst {K : PySem.W.Frag} {mg : Str → Option Value} {ds : List D} {vs : List V} {p : Addr} (s : Sim K mg B m st H) (hp : H p = none) (dv : DVs K mg B m ds vs) : ObjAt K mg B (m ++ [p]) (upd H p (.lst vs)) p (.lst ds) :=
  ⟨s.bnone hp, vs, upd_same, dv.mono (Sub.refl B) ⟨[p], rfl⟩⟩
theorem dv_newR {K : PySem.W.Frag} {mg : Str → Option Value} {p : Addr} (s : Sim K mg B m st H) : DV K mg B (m ++ [p]) (.ref st.length) (.ref p) := .ref (by rw [← s.len]; simp)
theorem r_lstM {es : List Expr} {fs : EA} {pos} (ha : SA X W es fs) : SE X W (.List es pos) (eLstM fs) :=
  (pe_lst ha).weak fun σ H Q ⟨B, m, ρ, st, s, q⟩ => ⟨B, m, ρ, st, s, q.bindA.mono fun v H1 ⟨B1, m1, st1, d, x1, s1, dv, q1⟩ => by
    dsimp only at q1
    by_cases hl : d.length ≤ 1000000
    · rw [if_pos hl] at q1
      exact ⟨le_line (by rw [← dv.length]; exact hl), fun p hp => q1 _ _ _ _ (s1.sim.ext_newM hp) (s1.mono (s1.sim.ext_newM hp) (s1.sim.newM hp (oa_lst s1.sim hp dv))) (dv_newR s1.sim)⟩
    · rw [if_neg hl] at q1
      exact q1.elim⟩

/-! ### tests -/
def PostT (X : Cx) (W : WX) (B : Hp) (m : List Addr) (H : Hp) (ρ : Rho) (σ : St) (Q : Bool → Hp → Prop) (r : RE) : Prop := PostE X W B m H ρ σ (fun v H1 => ∃ b, v = .bl b ∧ Q b H1) r
def tT (X : Cx) (W : WX) (f : E) : TT := fun σ H Q => ∃ B m ρ st, Stt X B m ρ st σ H ∧ PostE X W B m H ρ σ (fun v H1 => ∃ b, v = .bl b ∧ Q b H1) (f ρ st)
abbrev ST (X : Cx) (W : WX) (e : Expr) (f : E) : Prop := PT X e (tT X W f)
abbrev SW (X : Cx) (W : WX) (e : Expr) (f : E) : Prop := PW X e (tT X W f)
theorem _root_.L2.PW.weak {e : Expr} {t t' : TT} (h : PW X e t) (w : ∀ σ H Q, t' σ H Q → t σ H Q) : PW X e t' := ⟨fun whole pins s σ H Q I q => h.run whole pins s σ H Q I (w σ H Q q)⟩
theorem rt_val {f : E} (h : SE X W e f) (he : ∀ whole, isTrue e X.env whole = (do let v ← whole; standAt e.pos; holding [v] (truthy v)) := by intro _; rfl) : ST X W e f :=
  (pt_val h he).weak fun σ H Q ⟨B, m, ρ, st, s, q⟩ => ⟨B, m, ρ, st, s, q⟩
/-- from a test's middle: its value is a bool -/
theorem dv_bl {K : PySem.W.Frag} {mg : Str → Option Value} {d : D} {b : Bool} (h : DV K mg B m d (.bl b)) : d = .bl b := by cases h; rfl
theorem PostE.bindT {r : RE} {k : D → Sto → RE} {R : Bool → Hp → Prop} (h : PostE X W B m H ρ σ Q (r.bind k)) (hb : ∀ d st, PostE X W B m H ρ σ Q (k d st) → r = .ok d st → ∃ b, d = .bl b)
    (hR : ∀ b H1 B1 m1 st1, Ext B m H B1 m1 H1 → Stt X B1 m1 ρ st1 σ H1 → PostE X W B1 m1 H1 ρ σ Q (k (.bl b) st1) → R b H1) : PostE X W B m H ρ σ (fun v H1 => ∃ b, v = .bl b ∧ R b H1) r := by
  cases r with
  | ok d st =>
    obtain ⟨b, rfl⟩ := hb d st h rfl
    intro v B1 m1 H1 e s dv
    cases dv
    exact ⟨b, rfl, hR b H1 B1 m1 st e s (PostE.ext e h)⟩
  | exc x st => exact h
  | stuck => exact h
theorem r_if {pos} (hc : ST X W c fc) (ha : SE X W a fa) (hb : SE X W b fb) : SE X W (.IfExp c a b pos) (eIf fc fa fb) :=
  (pe_ifExp hc ha hb).weak fun σ H Q ⟨B, m, ρ, st, s, q⟩ => ⟨B, m, ρ, st, s, PostE.bindT q (fun d st h _ => by
      cases d <;> first | exact ⟨_, rfl⟩ | exact h.elim) fun k H1 B1 m1 st1 x1 s1 q1 => by
    cases k with
    | true => exact iteT ⟨B1, m1, ρ, st1, s1, q1⟩
    | false => exact iteF ⟨B1, m1, ρ, st1, s1, q1⟩⟩
theorem rt_not {pos} (ha : ST X W a fa) : ST X W (.UnaryOp .Not a pos) (eNot fa) :=
  (pt_not ha).weak fun σ H Q ⟨B, m, ρ, st, s, q⟩ => ⟨B, m, ρ, st, s, PostE.bindT q (fun d st h _ => by
      cases d <;> first | exact ⟨_, rfl⟩ | exact h.elim) fun k H1 B1 m1 st1 x1 s1 q1 => by
    obtain ⟨b', e', h'⟩ := q1 _ B1 m1 H1 (Ext.refl _ _ _) s1 (.bl _)
    cases e'
    exact h'⟩
theorem rw_and1 {pos} (ha : ST X W a fa) : SW X W (.BoolOp .And [a] pos) fa := pw_and1 ha
theorem rw_or1 {pos} (ha : ST X W a fa) : SW X W (.BoolOp .Or [a] pos) fa := pw_or1 ha
theorem rw_and {pos} {rest : List Expr} (ha : ST X W a fa) (hb : SW X W (.BoolOp .And (b :: rest) pos) fb) : SW X W (.BoolOp .And (a :: b :: rest) pos) (eAnd fa fb) :=
  PW.weak (pw_and ha hb) fun σ H Q ⟨B, m, ρ, st, s, q⟩ => ⟨B, m, ρ, st, s, PostE.bindT q (fun d st h _ => by
      cases d <;> first | exact ⟨_, rfl⟩ | exact h.elim) fun k H1 B1 m1 st1 x1 s1 q1 => by
    cases k with
    | true => exact iteT ⟨B1, m1, ρ, st1, s1, q1⟩
    | false =>
      obtain ⟨b', e', h'⟩ := q1 _ B1 m1 H1 (Ext.refl _ _ _) s1 (.bl _)
      cases e'
      exact iteF h'⟩
theorem rw_or {pos} {rest : List Expr} (ha : ST X W a fa) (hb : SW X W (.BoolOp .Or (b :: rest) pos) fb) : SW X W (.BoolOp .Or (a :: b :: rest) pos) (eOr fa fb) :=
  PW.weak (pw_or ha hb) fun σ H Q ⟨B, m, ρ, st, s, q⟩ => ⟨B, m, ρ, st, s, PostE.bindT q (fun d st h _ => by
      cases d <;> first | exact ⟨_, rfl⟩ | exact h.elim) fun k H1 B1 m1 st1 x1 s1 q1 => by
    cases k with
    | false => exact iteF ⟨B1, m1, ρ, st1, s1, q1⟩
    | true =>
      obtain ⟨b', e', h'⟩ := q1 _ B1 m1 H1 (Ext.refl _ _ _) s1 (.bl _)
      cases e'
      exact iteT h'⟩
theorem rt_w {f : E} (h : SW X W e f) : ST X W e f := PW.pt h
/-! .. as values -/
theorem r_one {op pos} {f : E} (h : SE X W a f) : SE X W (.BoolOp op [a] pos) f := pe_one h
theorem r_and {pos} {rest : List Expr} (ha : SE X W a fa) (hb : SE X W (.BoolOp .And (b :: rest) pos) fb) : SE X W (.BoolOp .And (a :: b :: rest) pos) (eAnd fa fb) :=
  (pe_and ha hb).weak fun σ H Q ⟨B, m, ρ, st, s, q⟩ => ⟨B, m, ρ, st, s, PostE.bindT q (fun d st h _ => by
      cases d <;> first | exact ⟨_, rfl⟩ | exact h.elim) fun k H1 B1 m1 st1 x1 s1 q1 => by
    cases k with
    | true => exact iteT ⟨B1, m1, ρ, st1, s1, q1⟩
    | false => exact iteF (q1 _ B1 m1 H1 (Ext.refl _ _ _) s1 (.bl _))⟩
theorem r_or {pos} {rest : List Expr} (ha : SE X W a fa) (hb : SE X W (.BoolOp .Or (b :: rest) pos) fb) : SE X W (.BoolOp .Or (a :: b :: rest) pos) (eOr fa fb) :=
  (pe_or ha hb).weak fun σ H Q ⟨B, m, ρ, st, s, q⟩ => ⟨B, m, ρ, st, s, PostE.bindT q (fun d st h _ => by
      cases d <;> first | exact ⟨_, rfl⟩ | exact h.elim) fun k H1 B1 m1 st1 x1 s1 q1 => by
    cases k with
    | false => exact iteF ⟨B1, m1, ρ, st1, s1, q1⟩
    | true => exact iteT (q1 _ B1 m1 H1 (Ext.refl _ _ _) s1 (.bl _))⟩
theorem r_not {pos} (ha : SE X W a fa) : SE X W (.UnaryOp .Not a pos) (eNot fa) :=
  (pe_not ha).weak fun σ H Q ⟨B, m, ρ, st, s, q⟩ => ⟨B, m, ρ, st, s, PostE.bindT q (fun d st h _ => by
      cases d <;> first | exact ⟨_, rfl⟩ | exact h.elim) fun k H1 B1 m1 st1 x1 s1 q1 => q1 _ B1 m1 H1 (Ext.refl _ _ _) s1 (.bl _)⟩
end
end L4
namespace L4
open PySem L2

def RE.toS (r : RE) (ρ : Rho) (k : D → Sto → RS) : RS := match r with
  | .ok d st => k d st
  | .exc x st => .exc x ρ st
  | .stuck => .stuck
def sNx : S := fun ρ st => .nx ρ st
def sBk : S := fun ρ st => .bk ρ st
def sCt : S := fun ρ st => .ct ρ st
def sNo : S := fun _ _ => .stuck
def sSeq (a b : S) : S := fun ρ st => match a ρ st with
  | .nx ρ1 st1 => b ρ1 st1
  | r => r
def sRet (e : E) : S := fun ρ st => (e ρ st).toS ρ fun d st1 => .rt d st1
def sRetN : S := fun _ st => .rt .non st
def sDrop (e : E) : S := fun ρ st => (e ρ st).toS ρ fun _ st1 => .nx ρ st1
def sIf (c : E) (a b : S) : S := fun ρ st => (c ρ st).toS ρ fun d st1 => match d with
  | .bl true => a ρ st1
  | .bl false => b ρ st1
  | _ => .stuck
def sSet (i : Nat) (e : E) : S := fun ρ st => (e ρ st).toS ρ fun d st1 => .nx (ρ.set i (some d)) st1
abbrev Bd := D → Rho → Option Rho
abbrev Bds := List D → Rho → Option Rho
def bName (i : Nat) : Bd := fun d ρ => some (ρ.set i (some d))
def bNil : Bds := fun ds ρ => match ds with
  | [] => some ρ
  | _ => none
def bCons (b : Bd) (bs : Bds) : Bds := fun ds ρ => match ds with
  | [] => none
  | d :: ds => (match b d ρ with
    | some ρ1 => bs ds ρ1
    | none => none)
def bTup (n : Nat) (bs : Bds) : Bd := fun d ρ => match d with
  | .tup ds => if ds.length = n then bs ds ρ else none
  | _ => none
def sAsg (e : E) (b : Bd) : S := fun ρ st => (e ρ st).toS ρ fun d st1 => match b d ρ with
  | some ρ1 => .nx ρ1 st1
  | none => .stuck
def sPar (i j : Nat) (a b : E) : S := fun ρ st => (a ρ st).toS ρ fun x st1 => (b ρ st1).toS ρ fun y st2 => .nx ((ρ.set i (some x)).set j (some y)) st2
def sWhile (c : E) (b : S) : Nat → S
  | 0 => sNo
  | n + 1 => fun ρ st => (c ρ st).toS ρ fun d st1 => match d with
    | .bl false => .nx ρ st1
    | .bl true => (match b ρ st1 with
      | .nx ρ2 st2 => sWhile c b n ρ2 st2
      | .ct ρ2 st2 => sWhile c b n ρ2 st2
      | .bk ρ2 st2 => .nx ρ2 st2
      | r => r)
    | _ => .stuck
def sForGo (b : Bd) (body : S) : List D → S
  | [] => sNx
  | d :: ds => fun ρ st => match b d ρ with
    | none => .stuck
    | some ρ1 => (match body ρ1 st with
      | .nx ρ2 st2 => sForGo b body ds ρ2 st2
      | .ct ρ2 st2 => sForGo b body ds ρ2 st2
      | .bk ρ2 st2 => .nx ρ2 st2
      | r => r)
def RA.toS (r : RA) (ρ : Rho) (k : List D → Sto → RS) : RS := match r with
  | .ok d st => k d st
  | .exc x st => .exc x ρ st
  | .stuck => .stuck
def sFor (src : EA) (b : Bd) (body : S) : S := fun ρ st => (src ρ st).toS ρ fun items st1 => sForGo b body items ρ st1
def sFrz (i : Nat) : S := fun ρ st => match ρ[i]? with
  | some (some (.ref n)) => (match st[n]? with
    | some (.lst ds) => .nx (ρ.set i (some (.lst ds))) (st.set n .gone)
    | _ => .stuck)
  | _ => .stuck
def wipeD (ρ : Rho) : List Nat → Rho
  | [] => ρ
  | v :: vs => (wipeD ρ vs).set v none
def lcGo (b : Bd) (t f : E) (ρ0 : Rho) (fin : List D → Sto → RE) : List D → Sto → List D → RE
  | [], st, acc => fin acc.reverse st
  | d :: ds, st, acc => match b d ρ0 with
    | none => .stuck
    | some ρ1 => (match t ρ1 st with
      | .ok (.bl true) st1 => (match f ρ1 st1 with
        | .ok y st2 => lcGo b t f ρ0 fin ds st2 (y :: acc)
        | _ => .stuck)
      | .ok (.bl false) st1 => lcGo b t f ρ0 fin ds st1 acc
      | _ => .stuck)
def finL (acc : List D) (st : Sto) : RE := .ok (.lst acc) st
def finM (acc : List D) (st : Sto) : RE := .ok (.ref st.length) (st ++ [.lst acc])
def eLcB (fin : List D → Sto → RE) (src : EA) (own : List Nat) (b : Bd) (t f : E) : E := fun ρ st => (src ρ st).bind fun items st1 => if items.length ≤ 1000000 then lcGo b t f (wipeD ρ own) fin items st1 [] else .stuck
abbrev eLc := eLcB finL
abbrev eLcM := eLcB finM

section
variable {X : Cx} {W : WX} {B B' : Hp} {m m' : List Addr} {ρ ρ' : Rho} {st st' : Sto} {σ σ' : St} {H H' : Hp} {Q Q' : VK} {e a b c : Expr} {fa fb fc fe : E} {ga gb : S} {Dn : Ends}
def MidS (X : Cx) (W : WX) (B : Hp) (m : List Addr) (H : Hp) (ρ : Rho) (σ : St) (Dn : Ends) (k : D → Sto → RS) (v : V) (H1 : Hp) : Prop :=
  ∃ B1 m1 st1 d, Ext B m H B1 m1 H1 ∧ Stt X B1 m1 ρ st1 σ H1 ∧ DV X.K X.mg B1 m1 d v ∧ PostS X W B1 m1 H1 Dn (k d st1)
theorem PostS.toE {r : RE} {k : D → Sto → RS} (h : PostS X W B m H Dn (r.toS ρ k)) : PostE X W B m H ρ σ (MidS X W B m H ρ σ Dn k) r := by
  cases r with
  | ok d st => exact fun v B1 m1 H1 e s dv => ⟨B1, m1, st, d, e, s, dv, PostS.ext e h⟩
  | exc x st => exact h
  | stuck => exact h
theorem PostS.toT {r : RE} {k : D → Sto → RS} {R : Bool → Hp → Prop} (h : PostS X W B m H Dn (r.toS ρ k)) (hb : ∀ d st, PostS X W B m H Dn (k d st) → ∃ b, d = .bl b)
    (hR : ∀ b H1 B1 m1 st1, Ext B m H B1 m1 H1 → Stt X B1 m1 ρ st1 σ H1 → PostS X W B1 m1 H1 Dn (k (.bl b) st1) → R b H1) : PostE X W B m H ρ σ (fun v H1 => ∃ b, v = .bl b ∧ R b H1) r := by
  cases r with
  | ok d st =>
    obtain ⟨b, rfl⟩ := hb d st h
    intro v B1 m1 H1 e s dv
    cases dv
    exact ⟨b, rfl, hR b H1 B1 m1 st e s (PostS.ext e h)⟩
  | exc x st => exact h
  | stuck => exact h
theorem PostS.nx (s : Stt X B m ρ st σ H) (h : PostS X W B m H Dn (.nx ρ st)) : Dn.nx σ H := h B m σ H (Ext.refl B m H) s
/-- other ends -/
theorem PostS.conv {D1 D2 : Ends} {f : RS → RS} (r : RS) (h : PostS X W B m H D1 (f r)) (hf : f r = r) (hr : ∀ ρ st, r ≠ .nx ρ st) (hrt : D1.rt = D2.rt) (hb : D1.bk = D2.bk) (hc : D1.ct = D2.ct) : PostS X W B m H D2 r := by
  rw [hf] at h
  cases r with
  | nx ρ st => exact absurd rfl (hr ρ st)
  | bk ρ st => intro B' m' σ' H' e s; rw [← hb]; exact h B' m' σ' H' e s
  | ct ρ st => intro B' m' σ' H' e s; rw [← hc]; exact h B' m' σ' H' e s
  | rt d st => intro v B' m' H' e s dv; rw [← hrt]; exact h v B' m' H' e s dv
  | exc x ρ st => exact h
  | stuck => exact h

theorem s_nil : SSs X W [] sNx := pss_nil.weak fun Dn σ H ⟨B, m, ρ, st, s, q⟩ => PostS.nx s q
theorem s_cons {x : Stmt} {xs : List Stmt} (h1 : SS X W x ga) (h2 : SSs X W xs gb) : SSs X W (x :: xs) (sSeq ga gb) :=
  (pss_cons h1 h2).weak fun Dn σ H ⟨B, m, ρ, st, s, q⟩ => by
    refine ⟨B, m, ρ, st, s, ?_⟩
    unfold sSeq at q
    cases h : ga ρ st with
    | nx ρ1 st1 =>
      rw [h] at q
      exact fun B1 m1 σ1 H1 e s1 => ⟨B1, m1, ρ1, st1, s1, PostS.ext e q⟩
    | bk ρ1 st1 => rw [h] at q; exact q
    | ct ρ1 st1 => rw [h] at q; exact q
    | rt d st1 => rw [h] at q; exact q
    | exc x ρ1 st1 => rw [h] at q; exact q
    | stuck => rw [h] at q; exact q
theorem s_one {x : Stmt} (h1 : SS X W x ga) : SSs X W [x] ga := pss_one h1
theorem s_pass {pos} : SS X W (.Pass pos) sNx := ps_pass.weak fun Dn σ H ⟨B, m, ρ, st, s, q⟩ => PostS.nx s q
theorem s_break {pos} : SS X W (.Break pos) sBk := ps_break.weak fun Dn σ H ⟨B, m, ρ, st, s, q⟩ => q B m σ H (Ext.refl B m H) s
theorem s_cont {pos} : SS X W (.Continue pos) sCt := ps_continue.weak fun Dn σ H ⟨B, m, ρ, st, s, q⟩ => q B m σ H (Ext.refl B m H) s
theorem s_never {x : Stmt} : SS X W x sNo := ps_never.weak fun Dn σ H ⟨B, m, ρ, st, s, q⟩ => q
theorem s_ret {pos} (h : SE X W e fe) : SS X W (.Return (some e) pos) (sRet fe) :=
  (ps_ret h).weak fun Dn σ H ⟨B, m, ρ, st, s, q⟩ => ⟨B, m, ρ, st, s, q.toE.mono fun v H1 ⟨B1, m1, st1, d, x1, s1, dv, q1⟩ => q1 v B1 m1 H1 (Ext.refl _ _ _) s1.sim dv⟩
theorem s_retN {pos} : SS X W (.Return none pos) sRetN := ps_retN.weak fun Dn σ H ⟨B, m, ρ, st, s, q⟩ => q .non B m H (Ext.refl _ _ _) s.sim .non
theorem s_expr {pos : Pos} (h : SE X W e fe) (hs : swapsWith e none pos.line X.env = pure false := by rfl) : SS X W (.Expr e pos) (sDrop fe) :=
  (ps_expr h hs).weak fun Dn σ H ⟨B, m, ρ, st, s, q⟩ => ⟨B, m, ρ, st, s, q.toE.mono fun v H1 ⟨B1, m1, st1, d, x1, s1, dv, q1⟩ => PostS.nx s1 q1⟩
theorem s_if {pos} {as bs : List Stmt} (hc : ST X W c fc) (ha : SSs X W as ga) (hb : SSs X W bs gb) : SS X W (.If c as bs pos) (sIf fc ga gb) :=
  (ps_if hc ha hb).weak fun Dn σ H ⟨B, m, ρ, st, s, q⟩ => ⟨B, m, ρ, st, s, PostS.toT q (fun d st h => by
      cases d <;> first | exact ⟨_, rfl⟩ | exact h.elim) fun k H1 B1 m1 st1 x1 s1 q1 => by
    cases k with
    | true => exact iteT ⟨B1, m1, ρ, st1, s1, q1⟩
    | false => exact iteF ⟨B1, m1, ρ, st1, s1, q1⟩⟩
theorem Stt.setR (s : Stt X B m ρ st σ H) {d : D} {v : V} (dv : DV X.K X.mg B m d v) (i : Nat) : Stt X B m (ρ.set i (some d)) st (σ.set i (some v)) H := ⟨s.sim, s.sl.set dv i⟩
theorem s_set {i : Nat} {x : Str} {pos pos' : Pos} (hN : X.N.Nodup) (hi : X.N[i]? = some x) (hx : Loc X.env.scope x) (he : SE X W e fe) (hs : swapsWith e (some (.Name x pos')) pos.line X.env = pure false := by rfl)
    (hf : X.fn x = true ∨ X.env.scope.names.lookup x = some .local := by first | exact .inl rfl | exact .inr rfl | assumption) : SS X W (.Assign [.Name x pos'] e pos) (sSet i fe) :=
  (ps_set hN hi hx he hs hf).weak fun Dn σ H ⟨B, m, ρ, st, s, q⟩ => ⟨B, m, ρ, st, s, q.toE.mono fun v H1 ⟨B1, m1, st1, d, x1, s1, dv, q1⟩ => PostS.nx (s1.setR dv i) q1⟩
theorem s_par {i j : Nat} {x y : Str} {px py pt pos : Pos} {kt k2 pt2} (hc : X.calm = true) (hN : X.N.Nodup) (hi : X.N[i]? = some x) (hj : X.N[j]? = some y) (hij : i ≠ j)
    (hx : X.env.scope.names.lookup x = some .local) (hy : X.env.scope.names.lookup y = some .local) (ha : SE X W a fa) (hb : SE X W b fb)
    (hw : swappedStores [.Tuple [.Name x px, .Name y py] kt pt] (.Tuple [a, b] k2 pt2) X.env = pure (some [x, y]))
    (hs : swapsWithSole [.Tuple [.Name x px, .Name y py] kt pt] (.Tuple [a, b] k2 pt2) pos.line X.env = pure false := by rfl)
    (ha1 : starEach [a, b] X.env = (false, eval a X.env) :: starEach [b] X.env := by rfl) (hb1 : starEach [b] X.env = (false, eval b X.env) :: starEach [] X.env := by rfl) :
    SS X W (.Assign [.Tuple [.Name x px, .Name y py] kt pt] (.Tuple [a, b] k2 pt2) pos) (sPar i j fa fb) :=
  (ps_par hc hN hi hj hij hx hy (pa_cons ha (pa_cons hb pa_nil hb1) ha1) hw hs).weak fun Dn σ H ⟨B, m, ρ, st, s, q⟩ => ⟨B, m, ρ, st, s, q.toE.mono fun v H1 ⟨B1, m1, st1, d, x1, s1, dv, q1⟩ =>
    ⟨B1, m1, ρ, st1, s1, q1.toE.mono fun w H2 ⟨B2, m2, st2, d2, x2, s2, dw, q2⟩ => ⟨v, w, rfl, PostS.nx ((s2.setR (dv.mono x2.bb x2.mm) i).setR dw j) q2⟩⟩⟩

/-! ### targets -/
def tG (X : Cx) (b : Bd) (ts : List Nat) : TG := fun v σ H Q => ∃ B m ρ st d ρ', Stt X B m ρ st σ H ∧ DV X.K X.mg B m d v ∧ b d ρ = some ρ' ∧
  ∀ σ', SlR X.K X.mg B m ρ' σ' → σ'.length = σ.length → (∀ j, j ∉ ts → σ'[j]? = σ[j]?) → Q σ' H
def tGs (X : Cx) (b : Bds) (ts : List Nat) : TGs := fun v σ H Q => ∃ B m ρ st d ρ', Stt X B m ρ st σ H ∧ DVs X.K X.mg B m d v ∧ b d ρ = some ρ' ∧
  ∀ σ', SlR X.K X.mg B m ρ' σ' → σ'.length = σ.length → (∀ j, j ∉ ts → σ'[j]? = σ[j]?) → Q σ' H
abbrev SG (X : Cx) (tg : Expr) (b : Bd) (ts : List Nat) : Prop := PG X tg (tG X b ts)
abbrev SGs (X : Cx) (tg : List Expr) (b : Bds) (ts : List Nat) : Prop := PGs X tg (tGs X b ts)
theorem _root_.L2.PG.weak {e : Expr} {t t' : TG} (h : PG X e t) (w : ∀ v σ H Q, t' v σ H Q → t v σ H Q) : PG X e t' := ⟨fun pins s σ H v u Q I r q => h.run pins s σ H v u Q I r (w v σ H Q q)⟩
theorem _root_.L2.PGs.weak {e : List Expr} {t t' : TGs} (h : PGs X e t) (w : ∀ v σ H Q, t' v σ H Q → t v σ H Q) : PGs X e t' := ⟨fun pins s σ H v u Q I r q => h.run pins s σ H v u Q I r (w v σ H Q q)⟩
theorem g_name {i : Nat} {x : Str} {pos} (hN : X.N.Nodup) (hi : X.N[i]? = some x) (hx : Loc X.env.scope x) (hf : X.fn x = true ∨ X.env.scope.names.lookup x = some .local := by first | exact .inl rfl | exact .inr rfl | assumption) : SG X (.Name x pos) (bName i) [i] :=
  (pg_name hN hi hx hf).weak fun v σ H Q ⟨B, m, ρ, st, d, ρ', s, dv, hb, q⟩ => by
    cases hb
    refine q _ (s.sl.set dv i) (List.length_set ..) fun j hj => ?_
    rw [List.getElem?_set_ne (by simpa using fun h => hj (by simp [h]))]
theorem g_nil : SGs X [] bNil [] := pgs_nil.weak fun v σ H Q ⟨B, m, ρ, st, d, ρ', s, dv, hb, q⟩ => by
  cases dv with
  | nil => cases hb; exact ⟨rfl, q σ s.sl rfl fun _ _ => rfl⟩
  | cons _ _ => cases hb
theorem g_cons {e : Expr} {es : List Expr} {b1 : Bd} {bs : Bds} {t1 ts : List Nat} (h1 : SG X e b1 t1) (h2 : SGs X es bs ts)
    (hs : (assignEach (e :: es) X.env).map (·.2) = assign e X.env :: (assignEach es X.env).map (·.2) := by rfl) : SGs X (e :: es) (bCons b1 bs) (t1 ++ ts) :=
  (pgs_cons h1 h2 hs).weak fun v σ H Q ⟨B, m, ρ, st, d, ρ', s, dv, hb, q⟩ => by
    match d, v, dv with
    | [], [], .nil => cases hb
    | d1 :: ds, v1 :: vs, .cons dv1 dvs =>
      unfold bCons at hb
      dsimp only at hb
      cases hb1 : b1 d1 ρ with
      | none => rw [hb1] at hb; cases hb
      | some ρ1 =>
        rw [hb1] at hb
        refine ⟨v1, vs, rfl, B, m, ρ, st, d1, ρ1, s, dv1, hb1, fun σ1 sl1 l1 h1 => ⟨B, m, ρ1, st, ds, ρ', ⟨s.sim, sl1⟩, dvs, hb, fun σ2 sl2 l2 h2 => q σ2 sl2 (l2.trans l1) fun j hj => ?_⟩⟩
        simp only [List.mem_append, not_or] at hj
        exact (h2 j hj.2).trans (h1 j hj.1)
theorem g_tup {es : List Expr} {k : Nat} {bs : Bds} {ts : List Nat} {n : Nat} {pos} (hc : X.calm = true) (h : SGs X es bs ts)
    (hn : (assignEach es X.env).length = n := by rfl) (hst : (assignEach es X.env).findIdx? (·.1) = none := by rfl) : SG X (.Tuple es k pos) (bTup n bs) ts :=
  (pg_tup hc h hn hst).weak fun v σ H Q ⟨B, m, ρ, st, d, ρ', s, dv, hb, q⟩ => by
    match d, v, dv with
    | .tup ds, .ref a, .tup (xs := xs) h1 h2 =>
      unfold bTup at hb
      dsimp only at hb
      by_cases hl : ds.length = n
      · rw [if_pos hl] at hb
        exact ⟨a, xs, rfl, s.sim.sub.sqT h1, by rw [← h2.length]; exact hl, B, m, ρ, st, ds, ρ', s, h2, hb, q⟩
      · rw [if_neg hl] at hb; cases hb
    | .non, _, _ => cases hb
    | .bl _, _, _ => cases hb
    | .int _, _, _ => cases hb
    | .str _, _, _ => cases hb
    | .ref _, _, _ => cases hb
    | .fn _, _, _ => cases hb
    | .ty _, _, _ => cases hb
    | .lst _, _, _ => cases hb
    | .scr _, _, _ => cases hb
theorem s_asg {tg : Expr} {b1 : Bd} {ts : List Nat} {pos : Pos} (he : SE X W e fe) (hg : SG X tg b1 ts) (hs : swapsWithSole [tg] e pos.line X.env = pure false := by rfl) (hw : swappedStores [tg] e X.env = pure none := by rfl)
    (h1 : (assignEach [tg] X.env).map (·.2) = [assign tg X.env] := by rfl) : SS X W (.Assign [tg] e pos) (sAsg fe b1) :=
  (ps_asg he hg hs hw h1).weak fun Dn σ H ⟨B, m, ρ, st, s, q⟩ => ⟨B, m, ρ, st, s, q.toE.mono fun v H1 ⟨B1, m1, st1, d, x1, s1, dv, q1⟩ => by
    dsimp only at q1
    cases hb : b1 d ρ with
    | none => rw [hb] at q1; exact q1.elim
    | some ρ1 =>
      rw [hb] at q1
      exact ⟨B1, m1, ρ, st1, d, ρ1, s1, dv, hb, fun σ' sl _ _ => PostS.nx ⟨s1.sim, sl⟩ q1⟩⟩

/-! ### loops -/
theorem s_while {pos} {body : List Stmt} (n : Nat) (hp : PassesOwn (model X.prog X.w) X.A X.env X.xe) (hc : ST X W c fc) (hb : SSs X W body gb) : SS X W (.While c body [] pos) (sWhile fc gb n) :=
  (ps_while hp hc hb).weak fun Dn σ H ⟨B, m, ρ, st, s, q⟩ => by
    refine ⟨fun k σ H => ∃ B m ρ st, Stt X B m ρ st σ H ∧ PostS X W B m H Dn (sWhile fc gb k ρ st), ⟨n, B, m, ρ, st, s, q⟩, ?_⟩
    rintro k σ H ⟨B, m, ρ, st, s, q⟩
    cases k with
    | zero => exact q.elim
    | succ k =>
      refine ⟨B, m, ρ, st, s, PostS.toT q (fun d st h => by
        cases d <;> first | exact ⟨_, rfl⟩ | exact h.elim) fun k' H1 B1 m1 st1 x1 s1 q1 => ?_⟩
      cases k' with
      | false => exact iteF (PostS.nx s1 q1)
      | true =>
        refine iteT ⟨fun σ H => ∃ B m ρ st, Stt X B m ρ st σ H ∧ PostS X W B m H Dn (sWhile fc gb k ρ st), fun σ' H' h => ⟨k, Nat.lt_succ_self k, h⟩, B1, m1, ρ, st1, s1, ?_⟩
        dsimp only at q1
        cases h : gb ρ st1 with
        | nx ρ2 st2 => rw [h] at q1; exact fun B2 m2 σ2 H2 e2 s2 => ⟨B2, m2, ρ2, st2, s2, PostS.ext e2 q1⟩
        | ct ρ2 st2 => rw [h] at q1; exact fun B2 m2 σ2 H2 e2 s2 => ⟨B2, m2, ρ2, st2, s2, PostS.ext e2 q1⟩
        | bk ρ2 st2 => rw [h] at q1; exact q1
        | rt d st2 => rw [h] at q1; exact q1
        | exc x ρ2 st2 => rw [h] at q1; exact q1
        | stuck => rw [h] at q1; exact q1
/-- J hands out the items -/
def Serves (X : Cx) (J : It) (B : Hp) (m : List Addr) (items : List D) : Prop :=
  ∀ B1 m1 st1 H1, Sub B B1 → Pre m m1 → Sim X.K X.mg B1 m1 st1 H1 → ∀ i, (∀ d, items[i]? = some d → J.go i H1 ∧ ∀ x H2, J.yld i H1 x H2 → ∃ B2, Ext B1 m1 H1 B2 m1 H2 ∧ Sim X.K X.mg B2 m1 st1 H2 ∧ DV X.K X.mg B2 m1 d x) ∧
    (items.length ≤ i → J.stop i H1)
def PostI (X : Cx) (W : WX) (B : Hp) (m : List Addr) (H : Hp) (ρ : Rho) (σ : St) (R : It → Hp → Prop) : RA → Prop
  | .ok items st => ∀ J B' m' H', Ext B m H B' m' H' → Stt X B' m' ρ st σ H' → Serves X J B' m' items → R J H'
  | .exc x st => PostX X W B m H x ρ st
  | .stuck => False
def tI (X : Cx) (W : WX) (src : EA) : TI := fun σ H R => ∃ B m ρ st, Stt X B m ρ st σ H ∧ PostI X W B m H ρ σ R (src ρ st)
abbrev SI (X : Cx) (W : WX) (tg iter : Expr) (src : EA) : Prop := PI X tg iter (tI X W src)
theorem s_for {tg iter : Expr} {body : List Stmt} {src : EA} {b1 : Bd} {ts : List Nat} {pos : Pos} (hp : PassesOwn (model X.prog X.w) X.A X.env X.xe) (hc : X.calm = true) (hi : SI X W tg iter src) (hg : SG X tg b1 ts) (hb : SSs X W body gb)
    (hs : ∀ x, foldedSetIterable iter X.env x = pure x := by intro _; rfl) : SS X W (.For tg iter body [] pos) (sFor src b1 gb) :=
  (ps_for hp hc hi hg hb hs).weak fun Dn σ H ⟨B, m, ρ, st, s, q⟩ => by
    refine ⟨B, m, ρ, st, s, ?_⟩
    unfold sFor at q
    cases h : src ρ st with
    | exc x st1 => rw [h] at q; exact q
    | stuck => rw [h] at q; exact q
    | ok items st1 =>
      rw [h] at q
      intro J B1 m1 H1 x1 s1 sv
      have q := PostS.ext x1 q
      refine ⟨fun i k σ H => ∃ B2 m2 ρ2 st2, Sub B1 B2 ∧ Pre m1 m2 ∧ Stt X B2 m2 ρ2 st2 σ H ∧ i + k = items.length ∧ PostS X W B2 m2 H Dn (sForGo b1 gb (items.drop i) ρ2 st2),
        ⟨items.length, B1, m1, ρ, st1, Sub.refl _, Pre.refl _, s1, by omega, q⟩, ?_⟩
      rintro i k σ H ⟨B2, m2, ρ2, st2, hB, hm, s2, hk, q2⟩
      have sv2 := sv B2 m2 st2 H hB hm s2.sim i
      by_cases hi : i < items.length
      · have hget : items[i]? = some items[i] := by simp [hi]
        obtain ⟨go, yld⟩ := sv2.1 _ hget
        rw [List.drop_eq_getElem_cons hi] at q2
        refine .inr ⟨go, fun σ' H' => ∃ B2 m2 ρ2 st2, Sub B1 B2 ∧ Pre m1 m2 ∧ Stt X B2 m2 ρ2 st2 σ' H' ∧ PostS X W B2 m2 H' Dn (sForGo b1 gb (items.drop (i + 1)) ρ2 st2), fun σ' H' ⟨B3, m3, ρ3, st3, c1, c2, c3, c4⟩ => ⟨k - 1, by omega, B3, m3, ρ3, st3, c1, c2, c3, by omega, c4⟩, fun x H3 hy => ?_⟩
        obtain ⟨B3, e3, k3, dv⟩ := yld x H3 hy
        have s3 := s2.mono e3 k3
        have q3 := PostS.ext e3 q2
        unfold sForGo at q3
        cases hb1 : b1 items[i] ρ2 with
        | none => rw [hb1] at q3; exact q3.elim
        | some ρ3 =>
          rw [hb1] at q3
          dsimp only at q3
          refine ⟨B3, m2, ρ2, st2, items[i], ρ3, s3, dv, hb1, fun σ4 sl4 _ _ => ⟨B3, m2, ρ3, st2, ⟨k3, sl4⟩, ?_⟩⟩
          cases hg : gb ρ3 st2 with
          | nx ρ4 st4 => rw [hg] at q3; exact fun B5 m5 σ5 H5 e5 s5 => ⟨B5, m5, ρ4, st4, (hB.trans e3.bb).trans e5.bb, (hm.trans e3.mm).trans e5.mm, s5, PostS.ext e5 q3⟩
          | ct ρ4 st4 => rw [hg] at q3; exact fun B5 m5 σ5 H5 e5 s5 => ⟨B5, m5, ρ4, st4, (hB.trans e3.bb).trans e5.bb, (hm.trans e3.mm).trans e5.mm, s5, PostS.ext e5 q3⟩
          | bk ρ4 st4 => rw [hg] at q3; exact q3
          | rt d st4 => rw [hg] at q3; exact q3
          | exc x ρ4 st4 => rw [hg] at q3; exact q3
          | stuck => rw [hg] at q3; exact q3
      · rw [List.drop_eq_nil_of_le (by omega)] at q2
        exact .inl ⟨sv2.2 (by omega), PostS.nx s2 q2⟩
theorem set_self {α : Type} : ∀ {l : List α} {i : Nat} {x : α}, l[i]? = some x → l.set i x = l
  | [], _, _, h => by simp at h
  | y :: l, 0, x, h => by simp at h; simp [h]
  | y :: l, i + 1, x, h => by
    have h : l[i]? = some x := by simpa using h
    simp [set_self h]
/-- from here on the list of the name i is told whole -/
theorem s_frz {xs : List Stmt} (i : Nat) (h : SSs X W xs gb) : SSs X W xs (sSeq (sFrz i) gb) :=
  PSs.weak h fun Dn σ H ⟨B, m, ρ, st, s, q⟩ => by
    unfold sSeq sFrz at q
    cases h1 : ρ[i]? with
    | none => rw [h1] at q; exact q.elim
    | some o =>
      rw [h1] at q
      match o, h1, q with
      | none, _, q => exact q.elim
      | some (.ref n), h1, q =>
        dsimp only at q
        cases h2 : st[n]? with
        | none => rw [h2] at q; exact q.elim
        | some mo =>
          rw [h2] at q
          cases mo with
          | lst ds =>
            dsimp only at q
            obtain ⟨v, hv, dv⟩ := s.sl.2 i _ h1
            cases dv with
            | ref hm =>
              rename_i a
              obtain ⟨hB, xs, hH, hx⟩ := s.sim.obj n a _ hm h2
              obtain ⟨k1, e1⟩ := s.sim.freeze hm hH hB
              refine ⟨_, m, _, _, ⟨k1, ?_⟩, PostS.ext e1 q⟩
              have z := s.sl.mono e1.bb e1.mm
              have w := z.set (d := .lst ds) (v := .ref a) (.lst upd_same (hx.mono e1.bb (Pre.refl m))) i
              rw [set_self hv] at w
              exact w
          | _ => exact q.elim
      | some .non, _, q => exact q.elim
      | some (.bl _), _, q => exact q.elim
      | some (.int _), _, q => exact q.elim
      | some (.str _), _, q => exact q.elim
      | some (.fn _), _, q => exact q.elim
      | some (.ty _), _, q => exact q.elim
      | some (.tup _), _, q => exact q.elim
      | some (.lst _), _, q => exact q.elim
      | some (.scr _), _, q => exact q.elim
end
end L4
namespace L4
open PySem L2

/-- no reference to the store within -/
def nr : Nat → D → Bool
  | 0, d => match d with
    | .tup _ => false
    | .lst _ => false
    | .ref _ => false
    | _ => true
  | n + 1, d => match d with
    | .tup ds => ds.all (nr n)
    | .lst ds => ds.all (nr n)
    | .ref _ => false
    | _ => true
def MO.nr : MO → Bool
  | .gone => true
  | .lst ds => ds.all (L4.nr 12)
  | .dK kvs => kvs.all fun p => L4.nr 12 p.2
  | .dT kvs => kvs.all fun p => L4.nr 12 p.2
/-- a call whose callee is handed nothing of the store -/
def callP (F : List D → Sto → RE) (ds : List D) (st : Sto) : RE :=
  if ds.all (nr 12) then match F ds [] with
    | .ok d _ => if nr 12 d then .ok d st else .stuck
    | .exc x _ => .exc x st
    | .stuck => .stuck
  else .stuck
def eCall (F : List D → Sto → RE) (as : EA) : E := fun ρ st => (as ρ st).bind fun ds st1 => callP F ds st1
/-- a call whose callee is handed the store's entry at the first place -/
def callM (F : List D → Sto → RE) (ds : List D) (st : Sto) : RE := match ds with
  | .ref n :: ds => (match st[n]? with
    | some o => if o.nr && ds.all (nr 12) then match F (.ref 0 :: ds) [o] with
      | .ok d st' => (match st' with
        | o' :: _ => if o'.nr && nr 12 d then .ok d (st.set n o') else .stuck
        | [] => .stuck)
      | _ => .stuck
      else .stuck
    | none => .stuck)
  | _ => .stuck
def eCallM (F : List D → Sto → RE) (as : EA) : E := fun ρ st => (as ρ st).bind fun ds st1 => callM F ds st1
/-- a def by its body: np parameters, nl names -/
def mkF (np nl : Nat) (g : S) : List D → Sto → RE := fun ds st => if ds.length = np then match g (ds.map some ++ List.replicate (nl - np) none) st with
  | .rt d st' => .ok d st'
  | .nx _ st' => .ok .non st'
  | .exc x _ st' => .exc x st'
  | _ => .stuck
  else .stuck

section
variable {K : PySem.W.Frag} {mg : Str → Option Value} {B B' : Hp} {m m' : List Addr} {st st' : Sto} {H H' : Hp}
theorem DVs.pure_of (n : Nat) (ih : ∀ {d : D} {v : V}, nr n d = true → DV K mg B m d v → DV K mg B m' d v) : ∀ {ds : List D} {vs : List V}, ds.all (nr n) = true → DVs K mg B m ds vs → DVs K mg B m' ds vs
  | _, _, _, .nil => .nil
  | _, _, h, .cons h1 h2 => by
    rw [List.all_cons, Bool.and_eq_true] at h
    exact .cons (ih h.1 h1) (DVs.pure_of n ih h.2 h2)
theorem DV.pure : ∀ (n : Nat) {d : D} {v : V}, nr n d = true → DV K mg B m d v → DV K mg B m' d v := fun n => by
  induction n with
  | zero =>
    intro d v h k
    cases k with
    | ref _ => cases h
    | tup _ _ => cases h
    | lst _ _ => cases h
    | non => exact .non
    | bl b => exact .bl b
    | int b => exact .int b
    | str b => exact .str b
    | fn k => exact .fn k
    | ty k => exact .ty k
    | scr k => exact .scr k
  | succ n ih =>
    intro d v h k
    cases k with
    | ref _ => cases h
    | tup a b => exact .tup a (DVs.pure_of n ih h b)
    | lst a b => exact .lst a (DVs.pure_of n ih h b)
    | non => exact .non
    | bl b => exact .bl b
    | int b => exact .int b
    | str b => exact .str b
    | fn k => exact .fn k
    | ty k => exact .ty k
    | scr k => exact .scr k
theorem DVs.pure {ds : List D} {vs : List V} (h : ds.all (nr 12) = true) (k : DVs K mg B m ds vs) : DVs K mg B m' ds vs := DVs.pure_of 12 (fun h k => DV.pure 12 h k) h k
theorem DVd.pure {κ : Type} : ∀ {ds : List (κ × D)} {vs : List (κ × V)}, (ds.all fun p => nr 12 p.2) = true → DVd K mg B m ds vs → DVd K mg B m' ds vs
  | _, _, _, .nil => .nil
  | _, _, h, .cons h1 h2 => by
    rw [List.all_cons, Bool.and_eq_true] at h
    exact .cons (DV.pure 12 h.1 h1) (DVd.pure h.2 h2)
theorem ObjAt.pure {a : Addr} {o : MO} (h : o.nr = true) (k : ObjAt K mg B m H a o) : ObjAt K mg B m' H a o := by
  cases o with
  | gone => trivial
  | lst ds => obtain ⟨h0, xs, h1, h2⟩ := k; exact ⟨h0, xs, h1, h2.pure h⟩
  | dK ds => obtain ⟨h0, xs, h1, h2⟩ := k; exact ⟨h0, xs, h1, h2.pure h⟩
  | dT ds => obtain ⟨h0, xs, h1, h2⟩ := k; exact ⟨h0, xs, h1, h2.pure h⟩
theorem Sim.empty (s : Sim K mg B m st H) : Sim K mg B [] [] H := ⟨s.sub, rfl, List.nodup_nil, fun n a o h => by simp at h, fun a h => by simp at h⟩
theorem Sim.one (s : Sim K mg B m st H) {n : Nat} {a : Addr} {o : MO} (ha : m[n]? = some a) (ho : st[n]? = some o) (hn : o.nr = true) : Sim K mg B [a] [o] H :=
  ⟨s.sub, rfl, by simp, fun i b o' h1 h2 => by
    cases i with
    | zero =>
      simp at h1 h2
      subst h1; subst h2
      exact (s.obj n a o ha ho).pure hn
    | succ i => simp at h1, fun b h => by
    rw [List.mem_singleton] at h
    subst h
    exact s.own b (List.mem_of_getElem? ha)⟩
/-- behind a call that was handed nothing of the store -/
theorem Sim.after0 (s : Sim K mg B m st H) (e : Ext B [] H B' m' H') (k : Sim K mg B' m' st' H') : Sim K mg B' m st H' ∧ Ext B m H B' m H' := by
  refine ⟨⟨k.sub, s.len, s.nd, fun n a o h1 h2 => ?_, fun a h => ?_⟩, ⟨e.bb, fun a o h n => ?_, Pre.refl m, fun a h => .inl h, fun a o h _ => e.fr a o h (by simp), e.st⟩⟩
  · obtain ⟨u, hu⟩ := s.own a (List.mem_of_getElem? h1)
    refine (s.obj n a o h1 h2).mono e.bb (Pre.refl m) (fun _ hb => ?_) fun x h => e.fr a x h (by simp)
    cases q : B' a with
    | none => rfl
    | some w =>
      rcases e.bn a w q hb with z | z
      · rw [hu] at z; cases z
      · simp at z
  · obtain ⟨u, hu⟩ := s.own a h
    exact ⟨u, e.fr a u hu (by simp)⟩
  · rcases e.bn a o h n with z | z
    · exact .inl z
    · simp at z
/-- behind a call that was handed the entry n -/
theorem Sim.after1 (s : Sim K mg B m st H) {n : Nat} {a : Addr} {o o' : MO} (ha : m[n]? = some a) (e : Ext B [a] H B' m' H') (k : Sim K mg B' m' (o' :: st') H') (hn : o'.nr = true) : Sim K mg B' m (st.set n o') H' ∧ Ext B m H B' m H' := by
  have am : a ∈ m := List.mem_of_getElem? ha
  have m0 : m'[0]? = some a := e.mm.get (by rfl)
  refine ⟨⟨k.sub, by rw [List.length_set]; exact s.len, s.nd, fun i b o2 h1 h2 => ?_, fun b h => ?_⟩, ⟨e.bb, fun b o h n => ?_, Pre.refl m, fun b h => .inl h, fun b o h hb => e.fr b o h ?_, e.st⟩⟩
  · by_cases hi : n = i
    · subst hi
      rw [ha] at h1
      cases h1
      rw [List.getElem?_set_self (by rw [← s.len]; exact (List.getElem?_eq_some_iff.mp ha).1)] at h2
      cases h2
      exact (k.obj 0 a o' m0 (by rfl)).pure hn
    · rw [List.getElem?_set_ne hi] at h2
      have hne : b ≠ a := fun z => hi (nd_get s.nd ha (z ▸ h1))
      obtain ⟨u, hu⟩ := s.own b (List.mem_of_getElem? h1)
      refine (s.obj i b o2 h1 h2).mono e.bb (Pre.refl m) (fun _ hb => ?_) fun x h => e.fr b x h (by simpa using hne)
      cases q : B' b with
      | none => rfl
      | some w =>
        rcases e.bn b w q hb with z | z
        · rw [hu] at z; cases z
        · rw [List.mem_singleton] at z; exact absurd z hne
  · obtain ⟨u, hu⟩ := s.own b h
    exact e.st b u hu
  · rcases e.bn b o h n with z | z
    · exact .inl z
    · rw [List.mem_singleton] at z; subst z; exact .inr am
  · intro z
    rw [List.mem_singleton] at z
    subst z
    exact hb am
end

end L4
namespace L4
open PySem L2
open PyProof.Rows (envOfC)

/-! ### a def's promise -/
def PostF (K : PySem.W.Frag) (mg : Str → Option Value) (B : Hp) (m : List Addr) (H : Hp) (Q : VK) (Ex : XK) : RE → Prop
  | .ok d st => ∀ v B' m' H', Ext B m H B' m' H' → Sim K mg B' m' st H' → DV K mg B' m' d v → Q v H'
  | .exc x st => ∀ cls dd B' m' H', Ext B m H B' m' H' → Sim K mg B' m' st H' → (dd = none ∧ ∃ C, mg x.name = some (.ref C) ∧ cls = .ref C) → Ex cls dd H'
  | .stuck => False
def spF (K : PySem.W.Frag) (mg : Str → Option Value) (F : List D → Sto → RE) : Sp := fun vs H Q Ex => ∃ B m ds st, Sim K mg B m st H ∧ DVs K mg B m ds vs ∧ PostF K mg B m H Q Ex (F ds st)
/-- a def's body is worth g, in every context of the def's -/
def BodyOk (P : Program) (w : World) (K : PySem.W.Frag) (mg : Str → Option Value) (base : Heap) (N : List Str) (qual : Str) (sc : Scope) (k : Nat) (body : List Stmt) (g : S) : Prop :=
  ∀ (f : Addr) (cdv : Value) (A : Around) (outer : List Env) (s : Shared) (H : Hp) (Ex : XK), Room k (A.deeper (envOfC qual sc s.heap.objs.size f cdv)) →
    SSs (cxOf (L2.CX P w) P w K mg base N qual sc f cdv A outer s H Ex) (fun cls d _ H' => Ex cls d H') body g
theorem fn_ok {P : Program} {w : World} {K : PySem.W.Frag} {mg : Str → Option Value} {base : Heap} {x qual : Str} {st : Stmt} {f : Addr} {fd : FuncData} {N ps : List Str} {k : Nat} {g : S} (F : Fun K x qual st f fd) (Sc : FnScope N ps (defScope st))
    (hb : BodyOk P w K mg base N qual (defScope st) k (defBody st) g) : FnOk P w K mg base (L2.CX P w) (k + 1) f fd ps (spF K mg (mkF ps.length N.length g)) := by
  refine F.okX Sc (fun vs H Q Ex ⟨B, m, ds, st, s, dv, q⟩ => ?_) (fun cdv A outer s H vs Q Ex hr ⟨B, m, ds, st, si, dv, q⟩ => ?_)
  · unfold mkF at q
    by_cases hl : ds.length = ps.length
    · rw [← dv.length]; exact hl
    · rw [if_neg hl] at q; exact q.elim
  · refine ⟨_, hb f cdv A outer s H Ex hr, B, m, ds.map some ++ List.replicate (N.length - ps.length) none, st, ⟨si, ?_⟩, ?_⟩
    · have hps : ds.length = ps.length := by
        unfold mkF at q
        by_cases hl : ds.length = ps.length
        · exact hl
        · rw [if_neg hl] at q; exact q.elim
      refine ⟨?_, fun i d hd => ?_⟩
      · unfold L2.start
        rw [List.length_append, List.length_append, List.length_map, List.length_map, List.length_replicate, List.length_replicate, dv.length.symm, hps]
      · have hi : i < ds.length := by
          by_cases hi : i < ds.length
          · exact hi
          · rw [List.getElem?_append_right (by simpa using hi), List.getElem?_replicate] at hd
            split at hd <;> cases hd
        rw [List.getElem?_append_left (by simpa using hi), List.getElem?_map] at hd
        cases hq : ds[i]? with
        | none => rw [hq] at hd; cases hd
        | some d' =>
          rw [hq] at hd
          cases hd
          obtain ⟨v, h1, h2⟩ := dv.get hq
          refine ⟨v, ?_, h2⟩
          unfold L2.start
          rw [List.getElem?_append_left (by rw [List.length_map, ← dv.length]; exact hi), List.getElem?_map, h1]
          rfl
    · unfold mkF at q
      by_cases hl : ds.length = ps.length
      · rw [if_pos hl] at q
        revert q
        cases h : g (ds.map some ++ List.replicate (N.length - ps.length) none) st with
        | rt d st1 => exact fun q v B' m' H' e k dv => q v B' m' H' e k dv
        | nx ρ st1 => exact fun q B' m' σ' H' e k => q _ B' m' H' e k.sim .non
        | exc x ρ st1 => exact fun q cls d B' m' σ' H' e k hx => q cls d B' m' H' e k.sim ⟨hx.1, hx.2⟩
        | bk _ _ => exact fun q => q.elim
        | ct _ _ => exact fun q => q.elim
        | stuck => exact fun q => q.elim
      · rw [if_neg hl] at q; exact q.elim

section
variable {X : Cx} {W : WX} {B B' : Hp} {m m' : List Addr} {ρ ρ' : Rho} {st st' : Sto} {σ σ' : St} {H H' : Hp} {Q Q' : VK} {e a b c : Expr} {fa fb fc fe : E} {ga gb : S} {Dn : Ends}
theorem post_callP {F : List D → Sto → RE} {ds : List D} {vs : List V} (s : Stt X B m ρ st σ H) (dv : DVs X.K X.mg B m ds vs) (q : PostE X W B m H ρ σ Q (callP F ds st)) : spF X.K X.mg F vs H Q (WE W σ) := by
  unfold callP at q
  by_cases hp : ds.all (nr 12) = true
  · rw [if_pos hp] at q
    refine ⟨B, [], ds, [], s.sim.empty, dv.pure hp, ?_⟩
    revert q
    cases F ds [] with
    | ok d st2 =>
      intro q v B' m' H' e k dr
      dsimp only at q
      by_cases hd : nr 12 d = true
      · rw [if_pos hd] at q
        obtain ⟨k1, e1⟩ := s.sim.after0 e k
        exact q v B' m H' e1 (s.mono e1 k1) (dr.pure 12 hd)
      · rw [if_neg hd] at q; exact q.elim
    | exc x st2 =>
      intro q cls dd B' m' H' e k hx
      obtain ⟨k1, e1⟩ := s.sim.after0 e k
      exact q cls dd B' m σ H' e1 (s.mono e1 k1) ⟨hx.1, hx.2⟩
    | stuck => exact fun q => q
  · rw [if_neg hp] at q; exact q.elim
theorem post_callM {F : List D → Sto → RE} {ds : List D} {vs : List V} (s : Stt X B m ρ st σ H) (dv : DVs X.K X.mg B m ds vs) (q : PostE X W B m H ρ σ Q (callM F ds st)) : spF X.K X.mg F vs H Q (WE W σ) := by
  unfold callM at q
  cases dv with
  | nil => exact q.elim
  | cons d1 dvs =>
    rename_i d v ds vs
    cases d1 with
    | ref hm =>
      rename_i n a
      dsimp only at q
      cases h : st[n]? with
      | none => rw [h] at q; exact q.elim
      | some o =>
        rw [h] at q
        dsimp only at q
        by_cases hp : (o.nr && ds.all (nr 12)) = true
        · rw [if_pos hp] at q
          rw [Bool.and_eq_true] at hp
          refine ⟨B, [a], .ref 0 :: ds, [o], s.sim.one hm h hp.1, .cons (.ref rfl) (dvs.pure hp.2), ?_⟩
          revert q
          cases F (.ref 0 :: ds) [o] with
          | ok d st2 =>
            intro q v B' m' H' e k dr
            cases st2 with
            | nil => exact q.elim
            | cons o' st2 =>
              dsimp only at q
              by_cases hd : (o'.nr && nr 12 d) = true
              · rw [if_pos hd] at q
                rw [Bool.and_eq_true] at hd
                obtain ⟨k1, e1⟩ := s.sim.after1 (o := o) hm e k hd.1
                exact q v B' m H' e1 (s.mono e1 k1) (dr.pure 12 hd.2)
              · rw [if_neg hd] at q; exact q.elim
          | exc x st2 => exact fun q => q.elim
          | stuck => exact fun q => q.elim
        · rw [if_neg hp] at q; exact q.elim
    | _ => exact q.elim
variable {k : Nat} {f : Addr} {fd : FuncData} {ps : List Str} {F : List D → Sto → RE} {x : Str} {p pos : Pos} {es : List Expr} {fs : EA}
theorem r_call (G : FnOk X.prog X.w X.K X.mg X.base (L2.CX X.prog X.w) k f fd ps (spF X.K X.mg F)) (hr : Room k X.A) (hg : Gl X x) (hm : X.mg x = some (.ref f)) (hk : PySem.W.keepIn X.K (.ref f) = true) (hb : Binds X.K fd ps []) (tk : Takes X W)
    (ha : SA X W (e :: es) fs) (hdb : (x == ("__debug__" : Str)) = false := by decide) (he : starEach (e :: es) X.env = (false, eval e X.env) :: starEach es X.env := by rfl) (hpl : (backTo pos (starEach es X.env)).any (·.1) = false := by rfl) :
    SE X W (.Call (.Name x p) (e :: es) [] pos) (eCall F fs) :=
  (pe_callS G hr hg hm hk hb (fun σ => passAt tk σ) ha hdb he hpl).weak fun σ H Q ⟨B, m, ρ, st, s, q⟩ => ⟨B, m, ρ, st, s, q.bindA.mono fun v H1 ⟨B1, m1, st1, d, x1, s1, dv, q1⟩ => post_callP s1 dv q1⟩
theorem r_callM (G : FnOk X.prog X.w X.K X.mg X.base (L2.CX X.prog X.w) k f fd ps (spF X.K X.mg F)) (hr : Room k X.A) (hg : Gl X x) (hm : X.mg x = some (.ref f)) (hk : PySem.W.keepIn X.K (.ref f) = true) (hb : Binds X.K fd ps []) (tk : Takes X W)
    (ha : SA X W (e :: es) fs) (hdb : (x == ("__debug__" : Str)) = false := by decide) (he : starEach (e :: es) X.env = (false, eval e X.env) :: starEach es X.env := by rfl) (hpl : (backTo pos (starEach es X.env)).any (·.1) = false := by rfl) :
    SE X W (.Call (.Name x p) (e :: es) [] pos) (eCallM F fs) :=
  (pe_callS G hr hg hm hk hb (fun σ => passAt tk σ) ha hdb he hpl).weak fun σ H Q ⟨B, m, ρ, st, s, q⟩ => ⟨B, m, ρ, st, s, q.bindA.mono fun v H1 ⟨B1, m1, st1, d, x1, s1, dv, q1⟩ => post_callM s1 dv q1⟩

/-! ### a < b < c -/
def tOp2 (r : R2) (x y : V) (H : Hp) (Q : VK) : Prop := r x y H Q
theorem post_op2 {r : R2} {g : D → D → Sto → Option D} (ho : Op2 X r g) {x y : D} {u w : V} (s : Stt X B m ρ st σ H) (dx : DV X.K X.mg B m x u) (dy : DV X.K X.mg B m y w) (q : PostE X W B m H ρ σ Q (RE.of (g x y st) st)) : r u w H Q := by
  obtain ⟨z, hz, q⟩ := q.of
  exact ho _ _ _ _ _ _ _ _ _ _ s.sim dx dy hz fun v' B' H' x3 k3 dv3 => q v' B' m H' x3 (s.mono x3 k3) dv3
theorem post_chain {r r' : R2} {g g' : D → D → Sto → Option D} (h1 : Op2 X r g) (h2 : Op2 X r' g') (s : Stt X B m ρ st σ H) (q : PostE X W B m H ρ σ Q (eChain g g' fa fb fc ρ st)) : tChain r r' (tE X W fa) (tE X W fb) (tE X W fc) σ H Q :=
  ⟨B, m, ρ, st, s, q.bind.mono fun v H1 ⟨B1, m1, st1, d, x1, s1, dv, q1⟩ => ⟨B1, m1, ρ, st1, s1, q1.bind.mono fun w H2 ⟨B2, m2, st2, d2, x2, s2, dw, q2⟩ => by
    refine post_op2 (W := W) h1 s2 (dv.mono x2.bb x2.mm) dw ?_
    refine (PostE.bindT q2 (fun d st h _ => by
      cases d <;> first | exact ⟨_, rfl⟩ | exact h.elim) (R := fun k H3 => if k = true then tE X W fc σ H3 (fun w' H4 => r' w w' H4 Q) else Q (.bl false) H3) fun k H3 B3 m3 st3 x3 s3 q3 => ?_)
    cases k with
    | true => exact iteT ⟨B3, m3, ρ, st3, s3, q3.bind.mono fun w' H4 ⟨B4, m4, st4, d4, x4, s4, dw', q4⟩ => post_op2 (W := W) h2 s4 ((dw.mono x3.bb x3.mm).mono x4.bb x4.mm) dw' q4⟩
    | false => exact iteF (q3 _ B3 m3 H3 (Ext.refl _ _ _) s3 (.bl _))⟩⟩
theorem r_chain {op op' : CmpOp} {r r' : R2} {g g' : D → D → Sto → Option D} (ho : OpR X (compareOp op) r) (ho' : OpR X (compareOp op') r') (h1 : Op2 X r g) (h2 : Op2 X r' g') (ha : SE X W a fa) (hb : SE X W b fb) (hc : SE X W c fc)
    (hm : lastMarks [op, op'] [b, c] = false := by with_unfolding_all rfl) : SE X W (.Compare a [op, op'] [b, c] pos) (eChain g g' fa fb fc) :=
  (pe_chain ho ho' ha hb hc hm).weak fun σ H Q ⟨B, m, ρ, st, s, q⟩ => post_chain h1 h2 s q
theorem rt_chain {op op' : CmpOp} {r r' : R2} {g g' : D → D → Sto → Option D} (ho : OpR X (compareOp op) r) (ho' : OpR X (compareOp op') r') (h1 : Op2 X r g) (h2 : Op2 X r' g') (ha : SE X W a fa) (hb : SE X W b fb) (hc : SE X W c fc)
    (hm : lastMarks [op, op'] [b, c] = false := by with_unfolding_all rfl) : ST X W (.Compare a [op, op'] [b, c] pos) (eChain g g' fa fb fc) :=
  (pt_chain ho ho' ha hb hc hm).weak fun σ H Q ⟨B, m, ρ, st, s, q⟩ => post_chain h1 h2 s q

/-! ### comprehensions -/
abbrev W0 : WX := fun _ _ _ _ => False
theorem wipe_get {σ : St} {i : Nat} : ∀ {vs : List Nat} {x : V}, (wipe σ vs)[i]? = some (some x) → σ[i]? = some (some x) := fun h => (wipe_some h).1
theorem wipeD_length (ρ : Rho) : ∀ vs : List Nat, (wipeD ρ vs).length = ρ.length
  | [] => rfl
  | v :: vs => by unfold wipeD; rw [List.length_set, wipeD_length ρ vs]
theorem wipeD_some {ρ : Rho} {i : Nat} {x : D} : ∀ {vs : List Nat}, (wipeD ρ vs)[i]? = some (some x) → ρ[i]? = some (some x) ∧ i ∉ vs
  | [], h => ⟨h, by simp⟩
  | v :: vs, h => by
    unfold wipeD at h
    by_cases hi : v = i
    · subst hi
      by_cases hv : v < (wipeD ρ vs).length
      · rw [List.getElem?_set_self hv] at h; cases h
      · rw [List.getElem?_eq_none (by simpa using hv)] at h; cases h
    · rw [List.getElem?_set_ne hi] at h
      obtain ⟨h1, h2⟩ := wipeD_some h
      exact ⟨h1, by simp only [List.mem_cons, not_or]; exact ⟨fun e => hi e.symm, h2⟩⟩
theorem wipe_not {σ : St} {i : Nat} : ∀ {vs : List Nat}, i ∉ vs → (wipe σ vs)[i]? = σ[i]?
  | [], _ => rfl
  | v :: vs, h => by
    simp only [List.mem_cons, not_or] at h
    unfold wipe
    rw [List.getElem?_set_ne (Ne.symm h.1)]
    exact wipe_not h.2
theorem wipe_in {σ : St} {i : Nat} : ∀ {vs : List Nat}, i ∈ vs → (wipe σ vs)[i]? = if i < σ.length then some none else none
  | v :: vs, h => by
    unfold wipe
    by_cases hi : v = i
    · subst hi
      by_cases hv : v < σ.length
      · rw [List.getElem?_set_self (by rw [wipe_length]; exact hv), if_pos hv]
      · rw [List.getElem?_eq_none (by rw [List.length_set, wipe_length]; omega), if_neg hv]
    · rw [List.getElem?_set_ne hi]
      exact wipe_in (by simpa [Ne.symm hi] using h)
theorem wipe_eq {σ σ' : St} {vs ts : List Nat} (hl : σ'.length = σ.length) (h : ∀ j, j ∉ ts → σ'[j]? = σ[j]?) (hs : ∀ j ∈ ts, j ∈ vs) : wipe σ' vs = wipe σ vs := by
  refine List.ext_getElem? fun i => ?_
  by_cases hi : i ∈ vs
  · rw [wipe_in hi, wipe_in hi, hl]
  · rw [wipe_not hi, wipe_not hi]
    exact h i fun z => hi (hs i z)
theorem SlR.wipe {K : PySem.W.Frag} {mg : Str → Option Value} (h : SlR K mg B m ρ σ) (vs : List Nat) : SlR K mg B m (wipeD ρ vs) (wipe σ vs) :=
  ⟨by rw [wipeD_length, wipe_length]; exact h.1, fun i d e => by
    obtain ⟨e1, e2⟩ := wipeD_some e
    obtain ⟨v, h1, h2⟩ := h.2 i d e1
    exact ⟨v, by rw [wipe_not e2]; exact h1, h2⟩⟩
theorem wipe_wipe {σ : St} (vs : List Nat) : L2.wipe (L2.wipe σ vs) vs = L2.wipe σ vs := by
  refine List.ext_getElem? fun i => ?_
  by_cases hi : i ∈ vs
  · rw [wipe_in hi, wipe_in hi, wipe_length]
  · rw [wipe_not hi]
/-- an object that is not told yet -/
theorem Sim.other {K : PySem.W.Frag} {mg : Str → Option Value} (s : Sim K mg B m st H) {p : Addr} {o : HO} (hB : B p = none) (hm : p ∉ m) : Sim K mg B m st (upd H p o) where
  sub := fun a u h => by rw [upd_ne (ne_of_none h hB)]; exact s.sub a u h
  len := s.len
  nd := s.nd
  obj := fun n a o' h1 h2 => by
    have hne : a ≠ p := fun e => hm (e ▸ List.mem_of_getElem? h1)
    exact (s.obj n a o' h1 h2).mono (Sub.refl B) (Pre.refl m) (fun _ h => h) fun x h => by rw [upd_ne hne]; exact h
  own := fun a h => by
    obtain ⟨o', k⟩ := s.own a h
    exact ⟨o', by rw [upd_ne (show a ≠ p from fun e => hm (by rw [← e]; exact h))]; exact k⟩
/-- it is told -/
theorem Sim.tell {K : PySem.W.Frag} {mg : Str → Option Value} (s : Sim K mg B m st H) {p : Addr} {o : HO} (hB : B p = none) (hm : p ∉ m) (hp : H p = some o) : Sim K mg (upd B p o) m st H where
  sub := fun a u h => by
    by_cases e : a = p
    · subst e; rw [upd_same] at h; cases h; exact hp
    · rw [upd_ne e] at h; exact s.sub a u h
  len := s.len
  nd := s.nd
  obj := fun n a o' h1 h2 => by
    have hne : a ≠ p := fun e => hm (e ▸ List.mem_of_getElem? h1)
    exact (s.obj n a o' h1 h2).mono (fun a u h => by rw [upd_ne (ne_of_none h hB)]; exact h) (Pre.refl m) (fun _ h => by rw [upd_ne hne]; exact h) fun x h => h
  own := s.own
theorem Sim.tellM {K : PySem.W.Frag} {mg : Str → Option Value} (s : Sim K mg B m st H) {p : Addr} {mo : MO} (hB : B p = none) (hm : p ∉ m) {o : HO} (hp : H p = some o) (h : ObjAt K mg B (m ++ [p]) H p mo) : Sim K mg B (m ++ [p]) (st ++ [mo]) H where
  sub := s.sub
  len := by simp [s.len]
  nd := by
    rw [List.nodup_append]
    refine ⟨s.nd, by simp, fun a ha b hb => ?_⟩
    rw [List.mem_singleton] at hb
    subst hb
    exact fun e => hm (e ▸ ha)
  obj := fun n a o' h1 h2 => by
    by_cases hn : n < m.length
    · rw [List.getElem?_append_left hn] at h1
      rw [List.getElem?_append_left (by rw [← s.len]; exact hn)] at h2
      exact (s.obj n a o' h1 h2).mono (Sub.refl B) ⟨[p], rfl⟩ (fun _ h => h) fun x h => h
    · rw [List.getElem?_append_right (by omega)] at h1
      rw [List.getElem?_append_right (by rw [← s.len]; omega)] at h2
      rw [s.len] at h1
      cases hk : n - st.length with
      | zero =>
        rw [hk] at h1 h2
        simp at h1 h2
        subst h1; subst h2
        exact h
      | succ k => rw [hk] at h1; simp at h1
  own := fun a h => by
    rcases List.mem_append.mp h with k | k
    · exact s.own a k
    · rw [List.mem_singleton] at k; subst k; exact ⟨o, hp⟩

theorem _root_.L2.PTs.weak {X : Cx} {e : List Expr} {t t' : TT} (h : PTs X e t) (w : ∀ σ H Q, t' σ H Q → t σ H Q) : PTs X e t' := ⟨fun pins s σ H Q I q => h.run pins s σ H Q I (w σ H Q q)⟩
abbrev STs (X : Cx) (W : WX) (ifs : List Expr) (f : E) : Prop := PTs X ifs (tT X W f)
theorem rts_nil {X : Cx} {W : WX} : STs X W [] (eC (.bl true)) := pts_nil.weak fun σ H Q ⟨B, m, ρ, st, s, q⟩ => by
  obtain ⟨b, e, h⟩ := q (.bl true) B m H (Ext.refl _ _ _) s (.bl _)
  cases e
  exact h
theorem rts_one {X : Cx} {W : WX} {c : Expr} {f : E} (h : ST X W c f) : STs X W [c] f := pts_one h
/-- where D0, not told yet, lies through a step -/
theorem keep_new {B B' : Hp} {m m' : List Addr} {H H' : Hp} (e : Ext B m H B' m' H') {p : Addr} {o : HO} (hB : B p = none) (hm : p ∉ m) (hp : H p = some o) : B' p = none ∧ p ∉ m' ∧ H' p = some o := by
  refine ⟨?_, fun h => ?_, e.fr p o hp hm⟩
  · cases q : B' p with
    | none => rfl
    | some u =>
      rcases e.bn p u q hB with z | z
      · rw [hp] at z; cases z
      · exact absurd z hm
  · rcases e.mn p h with z | z
    · exact hm z
    · rw [hp] at z; cases z
theorem ext_upd {B B' : Hp} {m m' : List Addr} {H H' : Hp} (e : Ext B m H B' m' H') {p : Addr} {o : HO} (hp : H p = none) : Ext B m H B' m' (upd H' p o) :=
  ⟨e.bb, e.bn, e.mm, e.mn, fun a u h hm => by rw [upd_ne (ne_of_none h hp)]; exact e.fr a u h hm, fun a u h => by
    obtain ⟨o', k⟩ := e.st a u h
    exact ⟨o', by rw [upd_ne (ne_of_none h hp)]; exact k⟩⟩
theorem ext_tell {B B' : Hp} {m m' : List Addr} {H H' : Hp} (e : Ext B m H B' m' H') {p : Addr} {o : HO} (hp : H p = none) (hB : B' p = none) : Ext B m H (upd B' p o) m' H' :=
  ⟨fun a u h => by
    have h1 := e.bb a u h
    rw [upd_ne (ne_of_none h1 hB)]; exact h1, fun a u h n => by
    by_cases k : a = p
    · subst k; exact .inl hp
    · rw [upd_ne k] at h; exact e.bn a u h n, e.mm, e.mn, e.fr, e.st⟩
theorem ext_tellM {B B' : Hp} {m m' : List Addr} {H H' : Hp} (e : Ext B m H B' m' H') {p : Addr} (hp : H p = none) : Ext B m H B' (m' ++ [p]) H' :=
  ⟨e.bb, e.bn, e.mm.trans ⟨[p], rfl⟩, fun a h => by
    rcases List.mem_append.mp h with k | k
    · exact e.mn a k
    · rw [List.mem_singleton] at k; subst k; exact .inr hp, e.fr, e.st⟩
/-- how a comprehension's list is told in the end -/
def FinOk (X : Cx) (fin : List D → Sto → RE) : Prop := ∀ (W : WX) (B : Hp) (m : List Addr) (H : Hp) (ρ : Rho) (σ : St) (Q : VK) (acc : List D) (st : Sto) (B2 : Hp) (m2 : List Addr) (H2 : Hp) (p : Addr) (vs : List V),
  Ext B m H B2 m2 H2 → Stt X B2 m2 ρ st σ H2 → H p = none → B2 p = none → p ∉ m2 → H2 p = some (.lst vs) → DVs X.K X.mg B2 m2 acc vs → PostE X W B m H ρ σ Q (fin acc st) → Q (.ref p) H2
theorem fin_L {X : Cx} : FinOk X finL := fun W B m H ρ σ Q acc st B2 m2 H2 p vs e s hp hB hm hH dv q => by
  have k := s.sim.tell hB hm hH
  have x : Sub B2 (upd B2 p (.lst vs)) := fun a u h => by rw [upd_ne (ne_of_none h hB)]; exact h
  exact q (.ref p) _ m2 H2 (ext_tell e hp hB) ⟨k, s.sl.mono x (Pre.refl _)⟩ (.lst upd_same (dv.mono x (Pre.refl _)))
theorem fin_M {X : Cx} : FinOk X finM := fun W B m H ρ σ Q acc st B2 m2 H2 p vs e s hp hB hm hH dv q => by
  have k := s.sim.tellM (mo := .lst acc) hB hm hH ⟨hB, vs, hH, dv.mono (Sub.refl _) ⟨[p], rfl⟩⟩
  exact q (.ref p) B2 (m2 ++ [p]) H2 (ext_tellM e hp) ⟨k, s.sl.mono (Sub.refl _) ⟨[p], rfl⟩⟩ (dv_newR s.sim)
/-- the reading of a comprehension -/
theorem post_lc {X : Cx} {W : WX} {B : Hp} {m : List Addr} {ρ : Rho} {st : Sto} {σ : St} {H : Hp} {Q : VK} {fin : List D → Sto → RE} {src : EA} {own : List Nat} {b1 : Bd} {ts : List Nat} {t f : E} {te : TE} {tt : TT} {g : TG} (hfin : FinOk X fin) (hts : ∀ j ∈ ts, j ∈ own)
    (hg : ∀ v σ H Q, tG X b1 ts v σ H Q → g v σ H Q) (ht : ∀ σ H Q, tT X W0 t σ H Q → tt σ H Q) (he : ∀ σ H Q, tE X W0 f σ H Q → te σ H Q)
    (s : Stt X B m ρ st σ H) (q : PostE X W B m H ρ σ Q (eLcB fin src own b1 t f ρ st)) : tLc (tI X W src) g tt te own σ H Q := by
  refine ⟨B, m, ρ, st, s, ?_⟩
  unfold eLcB at q
  cases h : src ρ st with
  | exc x st1 => rw [h] at q; exact q
  | stuck => rw [h] at q; exact q
  | ok items st1 =>
    rw [h] at q
    intro J B1 m1 H1 x1 s1 sv p hp
    have q := PostE.ext x1 q
    change PostE X W B1 m1 H1 ρ σ Q (if items.length ≤ 1000000 then lcGo b1 t f (wipeD ρ own) fin items st1 [] else .stuck) at q
    by_cases hlen : items.length ≤ 1000000
    case neg => rw [if_neg hlen] at q; exact q.elim
    rw [if_pos hlen] at q
    refine ⟨fun i k H2 => ∃ B2 m2 st2 acc vs, Ext B1 m1 H1 B2 m2 H2 ∧ Sim X.K X.mg B2 m2 st2 H2 ∧ B2 p = none ∧ p ∉ m2 ∧ H2 p = some (.lst vs) ∧ DVs X.K X.mg B2 m2 acc.reverse vs ∧ acc.length ≤ i ∧ i + k = items.length ∧
      PostE X W B1 m1 H1 ρ σ Q (lcGo b1 t f (wipeD ρ own) fin (items.drop i) st2 acc),
      ⟨items.length, B1, m1, st1, [], [], ext_upd (Ext.refl _ _ _) hp, s1.sim.other (s1.sim.bnone hp) (s1.sim.pm hp), s1.sim.bnone hp, s1.sim.pm hp, upd_same, .nil, Nat.le_refl _, by omega, q⟩, ?_⟩
    rintro i k H2 ⟨B2, m2, st2, acc, vs, e2, k2, hB2, hm2, hH2, dvs, hacc, hk, q2⟩
    have sl2 : SlR X.K X.mg B2 m2 ρ σ := s1.sl.mono e2.bb e2.mm
    have sv2 := sv B2 m2 st2 H2 e2.bb e2.mm k2 i
    by_cases hi : i < items.length
    · have hget : items[i]? = some items[i] := by simp [hi]
      obtain ⟨go, yld⟩ := sv2.1 _ hget
      rw [List.drop_eq_getElem_cons hi] at q2
      refine .inr ⟨go, fun H' => ∃ B2 m2 st2 acc vs, Ext B1 m1 H1 B2 m2 H' ∧ Sim X.K X.mg B2 m2 st2 H' ∧ B2 p = none ∧ p ∉ m2 ∧ H' p = some (.lst vs) ∧ DVs X.K X.mg B2 m2 acc.reverse vs ∧ acc.length ≤ i + 1 ∧
        PostE X W B1 m1 H1 ρ σ Q (lcGo b1 t f (wipeD ρ own) fin (items.drop (i + 1)) st2 acc), fun H' ⟨B3, m3, st3, acc3, vs3, c1, c2, c3, c4, c5, c6, c7, c8⟩ => ⟨k - 1, by omega, B3, m3, st3, acc3, vs3, c1, c2, c3, c4, c5, c6, c7, by omega, c8⟩, fun x H3 hy => ?_⟩
      obtain ⟨B3, e3, k3, dv⟩ := yld x H3 hy
      obtain ⟨hB3, hm3, hH3⟩ := keep_new e3 hB2 hm2 hH2
      have s3 : Stt X B3 m2 (wipeD ρ own) st2 (wipe σ own) H3 := ⟨k3, SlR.wipe (sl2.mono e3.bb e3.mm) own⟩
      unfold lcGo at q2
      cases hb1 : b1 items[i] (wipeD ρ own) with
      | none => rw [hb1] at q2; exact q2.elim
      | some ρ3 =>
        rw [hb1] at q2
        dsimp only at q2
        refine hg _ _ _ _ ⟨B3, m2, wipeD ρ own, st2, items[i], ρ3, s3, dv, hb1, fun σ4 sl4 hl hσ => ⟨by rw [wipe_eq (vs := own) hl hσ hts, wipe_wipe], ?_⟩⟩
        refine ht _ _ _ ⟨B3, m2, ρ3, st2, ⟨k3, sl4⟩, ?_⟩
        cases hq : t ρ3 st2 with
        | exc x st3 => rw [hq] at q2; exact q2.elim
        | stuck => rw [hq] at q2; exact q2.elim
        | ok d st3 =>
          rw [hq] at q2
          match d, q2 with
          | .bl true, q2 =>
            intro v4 B4 m4 H4 e4 s4 dv4
            cases dv4
            refine ⟨true, rfl, iteT (he _ _ _ ⟨B4, m4, ρ3, st3, s4, ?_⟩)⟩
            dsimp only at q2
            cases hf : f ρ3 st3 with
            | exc x st5 => rw [hf] at q2; exact q2.elim
            | stuck => rw [hf] at q2; exact q2.elim
            | ok y st5 =>
              rw [hf] at q2
              intro v5 B5 m5 H5 e5 s5 dv5
              obtain ⟨hB4, hm4, hH4⟩ := keep_new e4 hB3 hm3 hH3
              obtain ⟨hB5, hm5, hH5⟩ := keep_new e5 hB4 hm4 hH4
              have e15 := ((e2.trans e3).trans e4).trans e5
              have dvs5 := dvs.mono (e3.bb.trans (e4.bb.trans e5.bb)) (e3.mm.trans (e4.mm.trans e5.mm))
              refine ⟨vs, hH5, lt_line (by rw [← dvs.length, List.length_reverse]; omega), B5, m5, st5, y :: acc, vs ++ [v5], ext_upd e15 hp, s5.sim.other hB5 hm5, hB5, hm5, upd_same, ?_, by simp; omega, q2⟩
              rw [List.reverse_cons]
              exact dvs5.append (.cons dv5 .nil)
          | .bl false, q2 =>
            intro v4 B4 m4 H4 e4 s4 dv4
            cases dv4
            obtain ⟨hB4, hm4, hH4⟩ := keep_new e4 hB3 hm3 hH3
            exact ⟨false, rfl, iteF ⟨B4, m4, st3, acc, vs, (e2.trans e3).trans e4, s4.sim, hB4, hm4, hH4, dvs.mono (e3.bb.trans e4.bb) (e3.mm.trans e4.mm), by omega, q2⟩⟩
          | .non, q2 => exact q2.elim
          | .int _, q2 => exact q2.elim
          | .str _, q2 => exact q2.elim
          | .ref _, q2 => exact q2.elim
          | .fn _, q2 => exact q2.elim
          | .ty _, q2 => exact q2.elim
          | .tup _, q2 => exact q2.elim
          | .lst _, q2 => exact q2.elim
          | .scr _, q2 => exact q2.elim
    · rw [List.drop_eq_nil_of_le (by omega)] at q2
      exact .inl ⟨sv2.2 (by omega), hfin W B1 m1 H1 ρ σ Q acc.reverse st2 B2 m2 H2 p vs e2 ⟨k2, sl2⟩ hp hB2 hm2 hH2 dvs q2⟩
end
section
variable {X : Cx} {W : WX} {elt tg iter : Expr} {ifs : List Expr} {scope : Scope} {own : List (Str × Nat)} {pos : Pos} {src : EA} {b1 : Bd} {ts : List Nat} {t f : E} {fin : List D → Sto → RE}
abbrev Cx.bk (X : Cx) (scope : Scope) (s : Shared) (H : Hp) (C : Addr) (cl : List (Str × Addr)) (fp : List Addr) : Cx := X.blk s H scope (compEnvC scope cl C X.env) fp
theorem r_lcB (hfin : FinOk X fin) (hc : X.calm = true) (hN : X.N.Nodup) (hi : SI X W tg iter src) (ok : BlkOk X.N X.env.scope scope own) (hts : ∀ j ∈ ts, j ∈ own.map (·.2))
    (hg : ∀ (s : Shared) (H : Hp) (C : Addr) (cl : List (Str × Addr)) (fp : List Addr), SG (Cx.bk X scope s H C cl fp) tg b1 ts) (ht : ∀ (s : Shared) (H : Hp) (C : Addr) (cl : List (Str × Addr)) (fp : List Addr), STs (Cx.bk X scope s H C cl fp) W0 ifs t)
    (he : ∀ (s : Shared) (H : Hp) (C : Addr) (cl : List (Str × Addr)) (fp : List Addr), SE (Cx.bk X scope s H C cl fp) W0 elt f) (hs : ∀ x, foldedSetIterable iter X.env x = pure x := by intro _; rfl) :
    SE X W (.ListComp elt [⟨tg, iter, ifs, 0⟩] scope pos) (eLcB fin src (own.map (·.2)) b1 t f) :=
  (pe_lc (g := tG X b1 ts) (tt := tT X W0 t) (te := tE X W0 f) hc hN hi ok
    (fun s H C cl fp => (hg s H C cl fp).weak fun v σ H Q ⟨B, m, ρ, st, d, ρ', s, dv, hb, q⟩ => ⟨B, m, ρ, st, d, ρ', ⟨s.sim, s.sl⟩, dv, hb, q⟩)
    (fun s H C cl fp => (ht s H C cl fp).weak fun σ H Q ⟨B, m, ρ, st, s, q⟩ => ⟨B, m, ρ, st, ⟨s.sim, s.sl⟩, by
      revert q
      cases t ρ st with
      | ok d st => exact fun q v B' m' H' e s dv => q v B' m' H' e ⟨s.sim, s.sl⟩ dv
      | exc x st => exact fun q cls d B' m' σ' H' e s hx => q cls d B' m' σ' H' e ⟨s.sim, s.sl⟩ hx
      | stuck => exact fun q => q⟩)
    (fun s H C cl fp => (he s H C cl fp).weak fun σ H Q ⟨B, m, ρ, st, s, q⟩ => ⟨B, m, ρ, st, ⟨s.sim, s.sl⟩, by
      revert q
      cases f ρ st with
      | ok d st => exact fun q v B' m' H' e s dv => q v B' m' H' e ⟨s.sim, s.sl⟩ dv
      | exc x st => exact fun q cls d B' m' σ' H' e s hx => q cls d B' m' σ' H' e ⟨s.sim, s.sl⟩ hx
      | stuck => exact fun q => q⟩) hs).weak
    fun σ H Q ⟨B, m, ρ, st, s, q⟩ => post_lc hfin hts (fun _ _ _ _ h => h) (fun _ _ _ h => h) (fun _ _ _ h => h) s q
theorem s_setLcB {i : Nat} {y : Str} {py spos : Pos} (hfin : FinOk X fin) (hc : X.calm = true) (hN : X.N.Nodup) (hy : X.N[i]? = some y) (hyl : X.env.scope.names.lookup y = some .local)
    (hsw : swapsWith (.ListComp elt [⟨tg, iter, ifs, 0⟩] scope pos) (some (.Name y py)) spos.line X.env = pure true) (hi : SI X W tg iter src) (ok : BlkOk X.N X.env.scope scope own) (hts : ∀ j ∈ ts, j ∈ own.map (·.2))
    (hg : ∀ (s : Shared) (H : Hp) (C : Addr) (cl : List (Str × Addr)) (fp : List Addr), SG (Cx.bk X scope s H C cl fp) tg b1 ts) (ht : ∀ (s : Shared) (H : Hp) (C : Addr) (cl : List (Str × Addr)) (fp : List Addr), STs (Cx.bk X scope s H C cl fp) W0 ifs t)
    (he : ∀ (s : Shared) (H : Hp) (C : Addr) (cl : List (Str × Addr)) (fp : List Addr), SE (Cx.bk X scope s H C cl fp) W0 elt f) (hs : ∀ x, foldedSetIterable iter X.env x = pure x := by intro _; rfl) :
    SS X W (.Assign [.Name y py] (.ListComp elt [⟨tg, iter, ifs, 0⟩] scope pos) spos) (sSet i (eLcB fin src (own.map (·.2)) b1 t f)) :=
  (ps_setLc (g := tG X b1 ts) (tt := tT X W0 t) (te := tE X W0 f) hc hN hy hyl hsw hi ok
    (fun s H C cl fp => (hg s H C cl fp).weak fun v σ H Q ⟨B, m, ρ, st, d, ρ', s, dv, hb, q⟩ => ⟨B, m, ρ, st, d, ρ', ⟨s.sim, s.sl⟩, dv, hb, q⟩)
    (fun s H C cl fp => (ht s H C cl fp).weak fun σ H Q ⟨B, m, ρ, st, s, q⟩ => ⟨B, m, ρ, st, ⟨s.sim, s.sl⟩, by
      revert q
      cases t ρ st with
      | ok d st => exact fun q v B' m' H' e s dv => q v B' m' H' e ⟨s.sim, s.sl⟩ dv
      | exc x st => exact fun q cls d B' m' σ' H' e s hx => q cls d B' m' σ' H' e ⟨s.sim, s.sl⟩ hx
      | stuck => exact fun q => q⟩)
    (fun s H C cl fp => (he s H C cl fp).weak fun σ H Q ⟨B, m, ρ, st, s, q⟩ => ⟨B, m, ρ, st, ⟨s.sim, s.sl⟩, by
      revert q
      cases f ρ st with
      | ok d st => exact fun q v B' m' H' e s dv => q v B' m' H' e ⟨s.sim, s.sl⟩ dv
      | exc x st => exact fun q cls d B' m' σ' H' e s hx => q cls d B' m' σ' H' e ⟨s.sim, s.sl⟩ hx
      | stuck => exact fun q => q⟩) hs).weak
    fun Dn σ H ⟨B, m, ρ, st, s, q⟩ => by
      have q2 : PostE X W B m H ρ σ (MidS X W B m H ρ σ Dn fun d st1 => .nx (ρ.set i (some d)) st1) (eLcB fin src (own.map (·.2)) b1 t f ρ st) := PostS.toE q
      refine post_lc hfin hts (fun _ _ _ _ h => h) (fun _ _ _ h => h) (fun _ _ _ h => h) s (q2.mono fun v H1 ⟨B1, m1, st1, d, x1, s1, dv, q1⟩ => ?_)
      exact PostS.nx (s1.setR dv i) q1
end
end L4
namespace L4
open PySem L2
open PyProof.Rows (envOfC)

/-! ### operators on data -/
def listOf (x : D) (st : Sto) : Option (List D) := match x with
  | .lst ds => some ds
  | .ref n => (match st[n]? with
    | some (.lst ds) => some ds
    | _ => none)
  | _ => none
def addD (x y : D) (st : Sto) : Option D := match x, y with
  | .int i, .int j => some (.int (i + j))
  | .int i, .bl b => some (.int (i + PyProof.Rows.b2i b))
  | .str i, .str j => if i.length + j.length ≤ 1000000 then some (.str (i ++ j)) else none
  | .tup xs, .tup ys => if xs.length + ys.length ≤ 1000000 then some (.tup (xs ++ ys)) else none
  | x, y => match listOf x st, listOf y st with
    | some xs, some ys => if xs.length + ys.length ≤ 1000000 then some (.lst (xs ++ ys)) else none
    | _, _ => none
def subD (x y : D) (_ : Sto) : Option D := match x, y with
  | .int i, .int j => some (.int (i - j))
  | _, _ => none
def mulD (x y : D) (st : Sto) : Option D := match x, y with
  | .int i, .int j => if i.natAbs.log2 + j.natAbs.log2 < 100000000 then some (.int (i * j)) else none
  | x, .int k => (match listOf x st with
    | some xs => if xs.length ≤ 1000 ∧ 0 ≤ k ∧ k ≤ 1000 then some (.lst (List.replicate k.toNat xs).flatten) else none
    | none => none)
  | _, _ => none
def fdivD (x y : D) (_ : Sto) : Option D := match x, y with
  | .int i, .int j => if j ≠ 0 ∧ j.natAbs.log2 < 9000 then some (.int (i.fdiv j)) else none
  | _, _ => none
def modD (x y : D) (_ : Sto) : Option D := match x, y with
  | .int i, .int j => if j ≠ 0 then some (.int (i.fmod j)) else none
  | _, _ => none
def shlD (x y : D) (_ : Sto) : Option D := match x, y with
  | .int i, .int j => if 0 ≤ j ∧ j ≤ 1000000 ∧ i.natAbs < 18446744073709551616 then some (.int (i * 2 ^ j.toNat)) else none
  | _, _ => none
def shrD (x y : D) (_ : Sto) : Option D := match x, y with
  | .int i, .int j => if 0 ≤ j then some (.int (i / 2 ^ j.toNat)) else none
  | _, _ => none
def powD (x y : D) (_ : Sto) : Option D := match x, y with
  | .int i, .int j => if 0 ≤ j ∧ j ≤ 1000000 ∧ i.natAbs < 18446744073709551616 then some (.int (i ^ j.toNat)) else none
  | _, _ => none
def andD (x y : D) (_ : Sto) : Option D := match x, y with
  | .int i, .int j => some (.int (Builtin.bitAnd i j))
  | _, _ => none
def orD (x y : D) (_ : Sto) : Option D := match x, y with
  | .int i, .int j => some (.int (Builtin.bitOr i j))
  | _, _ => none
def negD (x : D) (_ : Sto) : Option D := match x with
  | .int i => some (.int (-i))
  | _ => none
def ltD (x y : D) (_ : Sto) : Option D := match x, y with
  | .int i, .int j => some (.bl (decide (i < j)))
  | _, _ => none
def leD (x y : D) (_ : Sto) : Option D := match x, y with
  | .int i, .int j => some (.bl (decide (i ≤ j)))
  | _, _ => none
def gtD (x y : D) (_ : Sto) : Option D := match x, y with
  | .int i, .int j => some (.bl (decide (j < i)))
  | _, _ => none
def geD (x y : D) (_ : Sto) : Option D := match x, y with
  | .int i, .int j => some (.bl (decide (j ≤ i)))
  | _, _ => none
def isNonD : D → Bool
  | .non => true
  | _ => false
def isD (x y : D) (_ : Sto) : Option D := match y with
  | .non => some (.bl (isNonD x))
  | _ => none
def isnotD (x y : D) (_ : Sto) : Option D := match y with
  | .non => some (.bl (!isNonD x))
  | _ => none
/-- data without references, of a depth of at most n -/
def shp : Nat → D → Bool
  | 0, d => match d with
    | .non => true | .bl _ => true | .int _ => true | .str x => PySem.PyData.strOk x
    | _ => false
  | n + 1, d => match d with
    | .non => true | .bl _ => true | .int _ => true | .str x => PySem.PyData.strOk x
    | .tup ds => ds.all (shp n)
    | .lst ds => ds.all (shp n)
    | _ => false
def toP : Nat → D → PyData
  | 0, d => match d with
    | .bl b => .bool b | .int i => .int i | .str x => .str x
    | _ => .none
  | n + 1, d => match d with
    | .bl b => .bool b | .int i => .int i | .str x => .str x
    | .tup ds => .tuple (ds.map (toP n))
    | .lst ds => .list (ds.map (toP n))
    | _ => .none
def eqLeaf (a b : D) : Bool := match a, b with
  | .non, .non => true
  | .bl a, .bl b => a == b
  | .bl a, .int j => (if a then 1 else 0) == j
  | .int i, .bl b => i == (if b then 1 else 0)
  | .int i, .int j => i == j
  | .str x, .str y => x == y
  | _, _ => false
def eqL (f : D → D → Bool) : List D → List D → Bool
  | [], [] => true
  | x :: xs, y :: ys => f x y && eqL f xs ys
  | _, _ => false
def eqvN : Nat → D → D → Bool
  | 0, a, b => eqLeaf a b
  | n + 1, a, b => match a, b with
    | .tup xs, .tup ys => eqL (eqvN n) xs ys
    | .lst xs, .lst ys => eqL (eqvN n) xs ys
    | a, b => eqLeaf a b
def eqD (x y : D) (st : Sto) : Option D := if shp 8 x && shp 8 y then some (.bl (eqvN 8 x y)) else none
def neD (x y : D) (st : Sto) : Option D := if shp 8 x && shp 8 y then some (.bl (!eqvN 8 x y)) else none
def ixD (x y : D) (st : Sto) : Option D := match y with
  | .int i => (match x with
    | .tup ds => atI ds i
    | .str z => if z.length ≤ 1000000 then (match atI z.cps.toList i with
      | some c => some (.str ⟨#[c]⟩)
      | none => none) else none
    | x => (match listOf x st with
      | some ds => atI ds i
      | none => none))
  | _ => none

section
variable {X : Cx} {B B' : Hp} {m m' : List Addr} {st st' : Sto} {H H' : Hp} {Q : VK} {x y d : D} {u w v : V} {ds : List D} {vs : List V}
theorem list_of {K : PySem.W.Frag} {mg : Str → Option Value} (s : Sim K mg B m st H) (dv : DV K mg B m x u) (h : listOf x st = some ds) : ∃ a xs, u = .ref a ∧ H a = some (.lst xs) ∧ DVs K mg B m ds xs := by
  unfold listOf at h
  cases dv with
  | lst hb hd => cases h; exact ⟨_, _, rfl, s.sub _ _ hb, hd⟩
  | ref hm =>
    dsimp only at h
    split at h
    · rename_i ds' h2
      cases h
      obtain ⟨_, xs, h1, h3⟩ := s.obj _ _ _ hm h2
      exact ⟨_, xs, rfl, h1, h3⟩
    · cases h
  | _ => cases h
theorem done (s : Sim X.K X.mg B m st H) (h : DV X.K X.mg B m d v) (k : ∀ v B' H', Ext B m H B' m H' → Sim X.K X.mg B' m st H' → DV X.K X.mg B' m d v → Q v H') : Q v H := k v B H (Ext.refl _ _ _) s h
theorem done_new (s : Sim X.K X.mg B m st H) {o : HO} (h : ∀ p, H p = none → DV X.K X.mg (upd B p o) m d (.ref p)) (k : ∀ v B' H', Ext B m H B' m H' → Sim X.K X.mg B' m st H' → DV X.K X.mg B' m d v → Q v H') : ∀ p, H p = none → Q (.ref p) (upd H p o) :=
  fun p hp => k (.ref p) _ _ (s.ext_newB hp) (s.newB hp) (h p hp)

def rAdd (K : PySem.W.Frag) : R2 := fun x y H Q => (rI0 (fun i j => .int (i + j)) x y H Q ∨ ∃ i k, x = .int i ∧ y = .bl k ∧ Q (.int (i + PyProof.Rows.b2i k)) H) ∨ (∃ i j, x = .str i ∧ y = .str j ∧ i.length + j.length ≤ sizeLine ∧ Q (.str (i ++ j)) H) ∨ rCatA K x y H Q ∨ rCat x y H Q
theorem op_addA : OpR X (binaryOp .Add) (rAdd X.K) := (op_add.or op_add_ib).or (op_add_str.or (op_catA.or op_cat))
theorem DVs.nil_iff {K : PySem.W.Frag} {mg : Str → Option Value} {ds : List D} {vs : List V} (h : DVs K mg B m ds vs) : ds = [] ↔ vs = [] := by
  cases h <;> simp
theorem o_add : Op2 X (rAdd X.K) addD := fun B m st H x y u w d Q s dx dy hg k => by
  cases dx with
  | int i =>
    cases dy with
    | int j => cases hg; exact .inl (.inl ⟨i, j, rfl, rfl, done s (.int _) k⟩)
    | bl b => cases hg; exact .inl (.inr ⟨i, b, rfl, rfl, done s (.int _) k⟩)
    | _ => simp [addD, listOf] at hg
  | str a =>
    cases dy with
    | str b =>
      simp only [addD] at hg
      split at hg
      · cases hg
        exact .inr (.inl ⟨a, b, rfl, rfl, le_line (by assumption), done s (.str _) k⟩)
      · cases hg
    | _ => simp [addD, listOf] at hg
  | tup h1 h2 =>
    rename_i xs a us
    cases dy with
    | tup h3 h4 =>
      rename_i ys b ws
      simp only [addD] at hg
      split at hg
      · rename_i hl
        cases hg
        refine .inr (.inr (.inl ⟨a, b, us, ws, rfl, rfl, s.sub.sqT h1, s.sub.sqT h3, le_line (by rw [← h2.length, ← h4.length]; exact hl), fun e => ?_, fun _ e => ?_, fun _ _ => ?_⟩))
        · refine done s ?_ k
          have e1 := h2.nil_iff.mpr e
          subst e1
          exact .tup h3 h4
        · refine done s ?_ k
          have e1 := h4.nil_iff.mpr e
          subst e1
          rw [List.append_nil]
          exact .tup h1 h2
        · exact done_new s (fun p hp => dv_newT s hp (h2.append h4)) k
      · cases hg
    | _ => simp [addD, listOf] at hg
  | lst h1 h2 =>
    simp only [addD] at hg
    split at hg
    · rename_i xs ys hx hy
      obtain ⟨a, us, e, ha, hu⟩ := list_of s (.lst h1 h2) hx
      cases e
      obtain ⟨b, ws, rfl, hb, hw⟩ := list_of s dy hy
      split at hg
      · rename_i hl
        cases hg
        exact .inr (.inr (.inr ⟨_, _, us, ws, rfl, rfl, ha, hb, le_line (by rw [← hu.length, ← hw.length]; exact hl), done_new s (fun p hp => dv_newL s hp (hu.append hw)) k⟩))
      · cases hg
    · cases hg
  | ref h1 =>
    simp only [addD] at hg
    split at hg
    · rename_i xs ys hx hy
      obtain ⟨a, us, e, ha, hu⟩ := list_of s (.ref h1) hx
      cases e
      obtain ⟨b, ws, rfl, hb, hw⟩ := list_of s dy hy
      split at hg
      · rename_i hl
        cases hg
        exact .inr (.inr (.inr ⟨_, _, us, ws, rfl, rfl, ha, hb, le_line (by rw [← hu.length, ← hw.length]; exact hl), done_new s (fun p hp => dv_newL s hp (hu.append hw)) k⟩))
      · cases hg
    · cases hg
  | _ => simp [addD, listOf] at hg
theorem o_sub : Op2 X (rI0 fun i j => .int (i - j)) subD := fun B m st H x y u w d Q s dx dy hg k => by
  cases dx with
  | int i =>
    cases dy with
    | int j => cases hg; exact ⟨i, j, rfl, rfl, done s (.int _) k⟩
    | _ => cases hg
  | _ => simp [subD] at hg
theorem mulOk {i j : Int} (h : i.natAbs.log2 + j.natAbs.log2 < 100000000) : IntMulOk i j := by
  have b : ∀ x : Int, Builtin.Int.intBits x ≤ x.natAbs.log2 + 1 := fun x => by
    unfold Builtin.Int.intBits
    split <;> omega
  have h1 := b i
  have h2 := b j
  have e : bitsLine = 134217728 := by decide
  unfold IntMulOk
  intro z
  rw [Bool.and_eq_true] at z
  have z2 := z.2
  unfold Builtin.Int.intTooBig at z2
  have z3 := of_decide_eq_true z2
  rw [e] at z3
  omega
theorem op_mulZ : OpR X (binaryOp .Mult) (rI (fun i j => i.natAbs.log2 + j.natAbs.log2 < 100000000) fun i j => .int (i * j)) := opI fun _ _ _ _ _ _ _ hc q => PyProof.Rows.mul_int q (mulOk hc)
def rMul : R2 := fun x y H Q => rI (fun i j => i.natAbs.log2 + j.natAbs.log2 < 100000000) (fun i j => .int (i * j)) x y H Q ∨ rRep x y H Q
theorem op_mulA : OpR X (binaryOp .Mult) rMul := op_mulZ.or op_rep
theorem DVs.rep {K : PySem.W.Frag} {mg : Str → Option Value} {ds : List D} {vs : List V} (h : DVs K mg B m ds vs) : ∀ k : Nat, DVs K mg B m (List.replicate k ds).flatten (List.replicate k vs).flatten
  | 0 => .nil
  | k + 1 => by
    rw [List.replicate_succ, List.replicate_succ, List.flatten_cons, List.flatten_cons]
    exact h.append (DVs.rep h k)
theorem mul_list {xs : List D} {k : Int} (s : Sim X.K X.mg B m st H) (dx : DV X.K X.mg B m x u) (hx : listOf x st = some xs) (hl : xs.length ≤ 1000 ∧ 0 ≤ k ∧ k ≤ 1000)
    (q : ∀ v B' H', Ext B m H B' m H' → Sim X.K X.mg B' m st H' → DV X.K X.mg B' m (.lst (List.replicate k.toNat xs).flatten) v → Q v H') : rMul u (.int k) H Q := by
  obtain ⟨a, us, rfl, ha, hu⟩ := list_of s dx hx
  refine .inr ⟨a, k, us, rfl, rfl, ha, by omega, by omega, ?_, done_new s (fun p hp => dv_newL s hp (hu.rep _)) q⟩
  rw [← hu.length]
  have h1 : k.toNat ≤ 1000 := by omega
  exact le_line (Nat.mul_le_mul hl.1 h1)
theorem o_mul : Op2 X rMul mulD := fun B m st H x y u w d Q s dx dy hg k => by
  cases dy with
  | int j =>
    cases dx with
    | int i =>
      simp only [mulD] at hg
      split at hg
      · cases hg; exact .inl ⟨i, j, rfl, rfl, by assumption, done s (.int _) k⟩
      · cases hg
    | lst h1 h2 =>
      simp only [mulD, listOf] at hg
      split at hg
      · cases hg; exact mul_list s (.lst h1 h2) rfl (by assumption) k
      · cases hg
    | ref h1 =>
      rename_i n a
      simp only [mulD] at hg
      cases hl : listOf (.ref n) st with
      | none => rw [hl] at hg; cases hg
      | some ds =>
        rw [hl] at hg
        dsimp only at hg
        split at hg
        · cases hg; exact mul_list s (.ref h1) hl (by assumption) k
        · cases hg
    | _ => simp [mulD, listOf] at hg
  | _ => cases dx <;> simp [mulD] at hg
theorem op_fdivZ : OpR X (binaryOp .FloorDiv) (rI (fun _ j => j ≠ 0 ∧ j.natAbs.log2 < 9000) fun i j => .int (i.fdiv j)) := opI fun _ _ _ _ _ _ _ hc q => PyProof.Rows.floordiv_int hc.1 q (.inl (PyProof.noPylong_of_log2 hc.2))
theorem o_fdiv : Op2 X (rI (fun _ j => j ≠ 0 ∧ j.natAbs.log2 < 9000) fun i j => .int (i.fdiv j)) fdivD := fun B m st H x y u w d Q s dx dy hg k => by
  cases dx with
  | int i =>
    cases dy with
    | int j =>
      simp only [fdivD] at hg
      split at hg
      · cases hg; exact ⟨i, j, rfl, rfl, by assumption, done s (.int _) k⟩
      · cases hg
    | _ => cases hg
  | _ => simp [fdivD] at hg
theorem o_mod : Op2 X (rI (fun _ j => j ≠ 0) fun i j => .int (i.fmod j)) modD := fun B m st H x y u w d Q s dx dy hg k => by
  cases dx with
  | int i =>
    cases dy with
    | int j =>
      simp only [modD] at hg
      split at hg
      · cases hg; exact ⟨i, j, rfl, rfl, by assumption, done s (.int _) k⟩
      · cases hg
    | _ => cases hg
  | _ => simp [modD] at hg
theorem o_shl : Op2 X (rI CPow fun i j => .int (i * 2 ^ j.toNat)) shlD := fun B m st H x y u w d Q s dx dy hg k => by
  cases dx with
  | int i =>
    cases dy with
    | int j =>
      simp only [shlD] at hg
      split at hg
      · rename_i h
        cases hg; exact ⟨i, j, rfl, rfl, ⟨h.1, h.2.1, by have := h.2.2; omega⟩, done s (.int _) k⟩
      · cases hg
    | _ => cases hg
  | _ => simp [shlD] at hg
theorem o_pow : Op2 X (rI CPow fun i j => .int (i ^ j.toNat)) powD := fun B m st H x y u w d Q s dx dy hg k => by
  cases dx with
  | int i =>
    cases dy with
    | int j =>
      simp only [powD] at hg
      split at hg
      · rename_i h
        cases hg; exact ⟨i, j, rfl, rfl, ⟨h.1, h.2.1, by have := h.2.2; omega⟩, done s (.int _) k⟩
      · cases hg
    | _ => cases hg
  | _ => simp [powD] at hg
theorem o_shr : Op2 X (rI (fun _ j => 0 ≤ j) fun i j => .int (i / 2 ^ j.toNat)) shrD := fun B m st H x y u w d Q s dx dy hg k => by
  cases dx with
  | int i =>
    cases dy with
    | int j =>
      simp only [shrD] at hg
      split at hg
      · cases hg; exact ⟨i, j, rfl, rfl, by assumption, done s (.int _) k⟩
      · cases hg
    | _ => cases hg
  | _ => simp [shrD] at hg
theorem o_and : Op2 X (rI0 fun i j => .int (Builtin.bitAnd i j)) andD := fun B m st H x y u w d Q s dx dy hg k => by
  cases dx with
  | int i =>
    cases dy with
    | int j => cases hg; exact ⟨i, j, rfl, rfl, done s (.int _) k⟩
    | _ => cases hg
  | _ => simp [andD] at hg
theorem o_or : Op2 X (rI0 fun i j => .int (Builtin.bitOr i j)) orD := fun B m st H x y u w d Q s dx dy hg k => by
  cases dx with
  | int i =>
    cases dy with
    | int j => cases hg; exact ⟨i, j, rfl, rfl, done s (.int _) k⟩
    | _ => cases hg
  | _ => simp [orD] at hg
theorem o_lt : Op2 X (rI0 fun i j => .bl (decide (i < j))) ltD := fun B m st H x y u w d Q s dx dy hg k => by
  cases dx with
  | int i =>
    cases dy with
    | int j => cases hg; exact ⟨i, j, rfl, rfl, done s (.bl _) k⟩
    | _ => cases hg
  | _ => simp [ltD] at hg
theorem o_le : Op2 X (rI0 fun i j => .bl (decide (i ≤ j))) leD := fun B m st H x y u w d Q s dx dy hg k => by
  cases dx with
  | int i =>
    cases dy with
    | int j => cases hg; exact ⟨i, j, rfl, rfl, done s (.bl _) k⟩
    | _ => cases hg
  | _ => simp [leD] at hg
theorem o_gt : Op2 X (rI0 fun i j => .bl (decide (j < i))) gtD := fun B m st H x y u w d Q s dx dy hg k => by
  cases dx with
  | int i =>
    cases dy with
    | int j => cases hg; exact ⟨i, j, rfl, rfl, done s (.bl _) k⟩
    | _ => cases hg
  | _ => simp [gtD] at hg
theorem o_ge : Op2 X (rI0 fun i j => .bl (decide (j ≤ i))) geD := fun B m st H x y u w d Q s dx dy hg k => by
  cases dx with
  | int i =>
    cases dy with
    | int j => cases hg; exact ⟨i, j, rfl, rfl, done s (.bl _) k⟩
    | _ => cases hg
  | _ => simp [geD] at hg
theorem o_neg : Op1 X (rU fun i => .int (-i)) negD := fun B m st H x u d Q s dx hg k => by
  cases dx with
  | int i => cases hg; exact ⟨i, rfl, done s (.int _) k⟩
  | _ => cases hg
theorem isNon_ok {K : PySem.W.Frag} {mg : Str → Option Value} (dx : DV K mg B m x u) : decide (u = V.non) = isNonD x := by
  cases dx <;> simp [isNonD]
theorem o_is : Op2 X (fun x y H Q => y = .non ∧ Q (.bl (decide (x = .non))) H) isD := fun B m st H x y u w d Q s dx dy hg k => by
  cases dy with
  | non => cases hg; exact ⟨rfl, by rw [isNon_ok dx]; exact done s (.bl _) k⟩
  | _ => cases hg
theorem o_isnot : Op2 X (fun x y H Q => y = .non ∧ Q (.bl (!decide (x = .non))) H) isnotD := fun B m st H x y u w d Q s dx dy hg k => by
  cases dy with
  | non => cases hg; exact ⟨rfl, by rw [isNon_ok dx]; exact done s (.bl _) k⟩
  | _ => cases hg

/-! ### == of data -/
theorem dps_of {K : PySem.W.Frag} {mg : Str → Option Value} {n : Nat} (hB : Sub B H) (ih : ∀ {x : D} {u : V}, DV K mg B m x u → shp n x = true → Dp K H u (toP n x)) : ∀ {xs : List D} {us : List V}, DVs K mg B m xs us → xs.all (shp n) = true → DpAll K H us (xs.map (toP n))
  | _, _, .nil, _ => .nil
  | _, _, .cons h k, q => by
    rw [List.all_cons, Bool.and_eq_true] at q
    exact .cons (ih h q.1) (dps_of hB ih k q.2)
theorem dp_of {K : PySem.W.Frag} {mg : Str → Option Value} (hB : Sub B H) : ∀ (n : Nat) {x : D} {u : V}, DV K mg B m x u → shp n x = true → Dp K H u (toP n x) := fun n => by
  induction n with
  | zero =>
    intro x u dv h
    cases dv with
    | non => exact .non
    | bl b => exact .bl b
    | int i => exact .int i
    | str z => exact .str z
    | _ => cases h
  | succ n ih =>
    intro x u dv h
    cases dv with
    | non => exact .non
    | bl b => exact .bl b
    | int i => exact .int i
    | str z => exact .str z
    | tup h1 h2 => exact .tup (hB.sqT h1) (dps_of hB ih h2 h)
    | lst h1 h2 => exact .lst (SqL.of (hB _ _ h1)) (dps_of hB ih h2 h)
    | _ => cases h
theorem lays_of {n : Nat} (ih : ∀ {x : D}, shp n x = true → (toP n x).canLay0 = true ∧ (toP n x).depth ≤ n) : ∀ {xs : List D}, xs.all (shp n) = true → PyData.canLayAll0 (xs.map (toP n)) = true ∧ PyData.depthAll (xs.map (toP n)) ≤ n
  | [], _ => ⟨rfl, Nat.zero_le _⟩
  | x :: xs, h => by
    rw [List.all_cons, Bool.and_eq_true] at h
    have h1 := ih h.1
    have h2 := lays_of ih h.2
    rw [List.map_cons]
    refine ⟨?_, ?_⟩
    · rw [PyData.canLayAll0, h1.1, h2.1]; rfl
    · rw [PyData.depthAll]
      have := h1.2
      have := h2.2
      omega
theorem lay_of : ∀ (n : Nat) {x : D}, shp n x = true → (toP n x).canLay0 = true ∧ (toP n x).depth ≤ n := fun n => by
  induction n with
  | zero =>
    intro x h
    cases x with
    | str z => exact ⟨by simpa [toP, PyData.canLay0, shp] using h, by simp [toP, PyData.depth]⟩
    | non => simp [toP, PyData.canLay0, PyData.depth]
    | bl _ => simp [toP, PyData.canLay0, PyData.depth]
    | int _ => simp [toP, PyData.canLay0, PyData.depth]
    | _ => cases h
  | succ n ih =>
    intro x h
    cases x with
    | str z => exact ⟨by simpa [toP, PyData.canLay0, shp] using h, by simp [toP, PyData.depth]⟩
    | non => simp [toP, PyData.canLay0, PyData.depth]
    | bl _ => simp [toP, PyData.canLay0, PyData.depth]
    | int _ => simp [toP, PyData.canLay0, PyData.depth]
    | tup ds =>
      have z := lays_of ih (xs := ds) h
      exact ⟨by simp only [toP, PyData.canLay0]; exact z.1, by simp only [toP, PyData.depth]; omega⟩
    | lst ds =>
      have z := lays_of ih (xs := ds) h
      exact ⟨by simp only [toP, PyData.canLay0]; exact z.1, by simp only [toP, PyData.depth]; omega⟩
    | _ => cases h
theorem shaped_of {x : D} (h : shp 8 x = true) : SeqAt.shaped (toP 8 x) = true := by
  have z := lay_of 8 h
  unfold SeqAt.shaped
  rw [z.1, Bool.true_and]
  exact decide_eq_true (by omega)
theorem eqs_of {n : Nat} (ih : ∀ {x y : D}, shp n x = true → shp n y = true → PyData.eqv (toP n x) (toP n y) = eqvN n x y) : ∀ {xs ys : List D}, xs.all (shp n) = true → ys.all (shp n) = true → PyData.eqvAll (xs.map (toP n)) (ys.map (toP n)) = eqL (eqvN n) xs ys
  | [], [], _, _ => rfl
  | [], _ :: _, _, _ => rfl
  | _ :: _, [], _, _ => rfl
  | x :: xs, y :: ys, h, k => by
    rw [List.all_cons, Bool.and_eq_true] at h k
    rw [List.map_cons, List.map_cons, PyData.eqvAll, ih h.1 k.1, eqs_of ih h.2 k.2, eqL]
theorem eqv_of : ∀ (n : Nat) {x y : D}, shp n x = true → shp n y = true → PyData.eqv (toP n x) (toP n y) = eqvN n x y := fun n => by
  induction n with
  | zero =>
    intro x y h k
    cases x <;> cases y <;> first | (simp only [toP, PyData.eqv, eqvN, eqLeaf]; done) | (cases h; done) | (cases k; done)
  | succ n ih =>
    intro x y h k
    cases x <;> cases y <;> first | (simp only [toP, PyData.eqv, eqvN, eqLeaf]; done) | (simp only [toP, PyData.eqv, eqvN]; exact eqs_of ih h k) | (cases h; done) | (cases k; done)
theorem o_eq : Op2 X (rEqD X.K) eqD := fun B m st H x y u w d Q s dx dy hg k => by
  unfold eqD at hg
  split at hg
  · rename_i h
    rw [Bool.and_eq_true] at h
    cases hg
    refine ⟨_, _, dp_of s.sub 8 dx h.1, dp_of s.sub 8 dy h.2, shaped_of h.1, shaped_of h.2, ?_⟩
    rw [eqv_of 8 h.1 h.2]
    exact done s (.bl _) k
  · cases hg
theorem o_ne : Op2 X (rNeD X.K) neD := fun B m st H x y u w d Q s dx dy hg k => by
  unfold neD at hg
  split at hg
  · rename_i h
    rw [Bool.and_eq_true] at h
    cases hg
    refine ⟨_, _, dp_of s.sub 8 dx h.1, dp_of s.sub 8 dy h.2, shaped_of h.1, shaped_of h.2, ?_⟩
    rw [eqv_of 8 h.1 h.2]
    exact done s (.bl _) k
  · cases hg
theorem atI_dv {K : PySem.W.Frag} {mg : Str → Option Value} {i : Int} (h : DVs K mg B m ds vs) (e : atI ds i = some d) : ∃ v, atI vs i = some v ∧ DV K mg B m d v := by
  unfold atI at e ⊢
  rw [← h.length]
  cases hk : ixN ds.length i with
  | none => rw [hk] at e; cases e
  | some j =>
    rw [hk] at e
    exact h.get e
theorem o_ix : Op2 X (rIx X.K) ixD := fun B m st H x y u w d Q s dx dy hg k => by
  cases dy with
  | int i =>
    cases dx with
    | tup h1 h2 =>
      obtain ⟨v, e, dv⟩ := atI_dv h2 hg
      exact .inr (.inl ⟨_, _, i, v, rfl, rfl, s.sub.sqT h1, e, done s dv k⟩)
    | str z =>
      simp only [ixD] at hg
      split at hg
      · split at hg
        · rename_i hl _ c hc
          cases hg
          exact .inr (.inr ⟨z, i, c, rfl, rfl, le_line hl, hc, done s (.str _) k⟩)
        · cases hg
      · cases hg
    | lst h1 h2 =>
      obtain ⟨v, e, dv⟩ := atI_dv h2 hg
      exact .inl ⟨_, _, i, v, rfl, rfl, SqL.of (s.sub _ _ h1), e, done s dv k⟩
    | ref h1 =>
      rename_i n a
      simp only [ixD] at hg
      cases hl : listOf (.ref n) st with
      | none => rw [hl] at hg; cases hg
      | some ds =>
        rw [hl] at hg
        dsimp only at hg
        obtain ⟨a, us, e1, ha, hu⟩ := list_of s (.ref h1) hl
        cases e1
        obtain ⟨v, e, dv⟩ := atI_dv hu hg
        exact .inl ⟨_, _, i, v, rfl, rfl, SqL.of ha, e, done s dv k⟩
    | _ => simp [ixD, listOf] at hg
  | _ => cases dx <;> simp [ixD] at hg
end
end L4
namespace L4
open PySem L2
open PyProof.Rows (envOfC)

def intsOf : List D → Option (List Int)
  | [] => some []
  | .int i :: ds => (match intsOf ds with
    | some is => some (i :: is)
    | none => none)
  | _ => none
def blsOf : List D → Option (List Bool)
  | [] => some []
  | .bl i :: ds => (match blsOf ds with
    | some is => some (i :: is)
    | none => none)
  | _ => none
def g0 (g : List D → Sto → Option D) : List D → Sto → Option (D × Sto) := fun ds st => match g ds st with
  | some d => some (d, st)
  | none => none
def absD (ds : List D) (_ : Sto) : Option D := match ds with
  | [.int i] => some (.int (if i < 0 then -i else i))
  | _ => none
def seqOf (x : D) (st : Sto) : Option (List D) := match x with
  | .tup ds => some ds
  | x => listOf x st
def lenD (ds : List D) (st : Sto) : Option D := match ds with
  | [.str z] => if z.length ≤ 1000000 then some (.int z.length) else none
  | [x] => (match seqOf x st with
    | some xs => some (.int xs.length)
    | none => none)
  | _ => none
def maxI : Int → List Int → Int
  | a, [] => a
  | a, b :: bs => maxI (if b > a then b else a) bs
def minI : Int → List Int → Int
  | a, [] => a
  | a, b :: bs => minI (if b < a then b else a) bs
def max2D (ds : List D) (_ : Sto) : Option D := match ds with
  | [.int i, .int j] => some (.int (if j > i then j else i))
  | _ => none
def min2D (ds : List D) (_ : Sto) : Option D := match ds with
  | [.int i, .int j] => some (.int (if j < i then j else i))
  | _ => none
def sumD (ds : List D) (st : Sto) : Option D := match ds with
  | [x] => (match listOf x st with
    | some xs => (match intsOf xs with
      | some is => some (.int is.sum)
      | none => none)
    | none => none)
  | _ => none
def allD (ds : List D) (st : Sto) : Option D := match ds with
  | [x] => (match listOf x st with
    | some xs => (match blsOf xs with
      | some is => some (.bl (is.all id))
      | none => none)
    | none => none)
  | _ => none
def anyD (ds : List D) (st : Sto) : Option D := match ds with
  | [x] => (match listOf x st with
    | some xs => (match blsOf xs with
      | some is => some (.bl (is.any id))
      | none => none)
    | none => none)
  | _ => none
def tupleD (ds : List D) (st : Sto) : Option D := match ds with
  | [.tup xs] => some (.tup xs)
  | [x] => (match listOf x st with
    | some xs => some (.tup xs)
    | none => none)
  | _ => none
def listD (ds : List D) (st : Sto) : Option D := match ds with
  | [.scr ns] => some (.lst (ns.map .int))
  | [x] => (match seqOf x st with
    | some xs => some (.lst xs)
    | none => none)
  | _ => none
def listDM (ds : List D) (st : Sto) : Option (D × Sto) := match ds with
  | [.scr ns] => some (.ref st.length, st ++ [.lst (ns.map .int)])
  | [x] => (match seqOf x st with
    | some xs => some (.ref st.length, st ++ [.lst xs])
    | none => none)
  | _ => none
def intD (ds : List D) (_ : Sto) : Option D := match ds with
  | [.int i] => some (.int i)
  | [.bl b] => some (.int (if b then 1 else 0))
  | _ => none
def tyOf (x : D) (st : Sto) : Option String := match x with
  | .non => some "NoneType"
  | .bl _ => some "bool"
  | .int _ => some "int"
  | .str _ => some "str"
  | .tup _ => some "tuple"
  | .lst _ => some "list"
  | .ref n => (match st[n]? with
    | some (.lst _) => some "list"
    | some (.dK _) => some "dict"
    | some (.dT _) => some "dict"
    | _ => none)
  | _ => none
def isOne (t u : String) : Option Bool :=
  if u == "int" then some (t == "int" || t == "bool")
  else if u == "bool" then some (t == "bool")
  else if u == "str" then some (t == "str")
  else if u == "tuple" then some (t == "tuple")
  else if u == "list" then some (t == "list")
  else if u == "dict" then some (t == "dict")
  else none
def isiD (ds : List D) (st : Sto) : Option D := match ds with
  | [x, .ty u] => (match tyOf x st with
    | some t => (match isOne t u with
      | some b => some (.bl b)
      | none => none)
    | none => none)
  | _ => none
/-- a sorted list of ints -/
def insI (x : Int) : List Int → List Int
  | [] => [x]
  | y :: ys => if x ≤ y then x :: y :: ys else y :: insI x ys
def srtI : List Int → List Int
  | [] => []
  | x :: xs => insI x (srtI xs)
def sortedD (ds : List D) (st : Sto) : Option D := match ds with
  | [x] => (match listOf x st with
    | some xs => (match intsOf xs with
      | some is => some (.lst ((srtI is).map .int))
      | none => none)
    | none => none)
  | _ => none

section
variable {X : Cx} {B B' : Hp} {m m' : List Addr} {st st' : Sto} {H H' : Hp} {Q : VK} {x y d : D} {u w v : V} {ds : List D} {vs : List V}
theorem opN_of {r : List V → Hp → VK → Prop} {g : List D → Sto → Option D}
    (h : ∀ (B : Hp) (m : List Addr) (st : Sto) (H : Hp) (xs : List D) (us : List V) (d : D) (Q : VK), Sim X.K X.mg B m st H → DVs X.K X.mg B m xs us → g xs st = some d →
      (∀ v B' H', Ext B m H B' m H' → Sim X.K X.mg B' m st H' → DV X.K X.mg B' m d v → Q v H') → r us H Q) : OpN X r (g0 g) := fun B m st H xs us d st' Q s dv hg k => by
  unfold g0 at hg
  split at hg
  · cases hg
    exact h B m st H xs us _ Q s dv (by assumption) fun v B' H' e s' dv' => k v B' m H' e s' dv'
  · cases hg
theorem ints_of {K : PySem.W.Frag} {mg : Str → Option Value} : ∀ {ds : List D} {vs : List V} {is : List Int}, DVs K mg B m ds vs → intsOf ds = some is → vs = is.map V.int
  | _, _, _, .nil, h => by cases h; rfl
  | _, _, _, .cons (d := d) hd k, h => by
    cases hd with
    | int i =>
      simp only [intsOf] at h
      split at h
      · cases h
        rw [List.map_cons, ← ints_of k (by assumption)]
      · cases h
    | _ => cases h
theorem bls_of {K : PySem.W.Frag} {mg : Str → Option Value} : ∀ {ds : List D} {vs : List V} {is : List Bool}, DVs K mg B m ds vs → blsOf ds = some is → vs = is.map V.bl
  | _, _, _, .nil, h => by cases h; rfl
  | _, _, _, .cons (d := d) hd k, h => by
    cases hd with
    | bl i =>
      simp only [blsOf] at h
      split at h
      · cases h
        rw [List.map_cons, ← bls_of k (by assumption)]
      · cases h
    | _ => cases h
theorem dvs_ints {K : PySem.W.Frag} {mg : Str → Option Value} : ∀ (is : List Int), DVs K mg B m (is.map D.int) (is.map V.int)
  | [] => .nil
  | i :: is => .cons (.int i) (dvs_ints is)
theorem dvs1 {K : PySem.W.Frag} {mg : Str → Option Value} (h : DVs K mg B m [x] vs) : ∃ u, vs = [u] ∧ DV K mg B m x u := by
  cases h with
  | cons h k => cases k; exact ⟨_, rfl, h⟩
theorem dvs2 {K : PySem.W.Frag} {mg : Str → Option Value} (h : DVs K mg B m [x, y] vs) : ∃ u w, vs = [u, w] ∧ DV K mg B m x u ∧ DV K mg B m y w := by
  cases h with
  | cons h k =>
    obtain ⟨w, rfl, k2⟩ := dvs1 k
    exact ⟨_, _, rfl, h, k2⟩
theorem seq_of {K : PySem.W.Frag} {mg : Str → Option Value} (s : Sim K mg B m st H) (dv : DV K mg B m x u) (h : seqOf x st = some ds) : ∃ a xs, u = .ref a ∧ (SqL K H a xs ∨ SqT K H a xs) ∧ DVs K mg B m ds xs := by
  cases dv with
  | tup h1 h2 => cases h; exact ⟨_, _, rfl, .inr (s.sub.sqT h1), h2⟩
  | lst h1 h2 => cases h; exact ⟨_, _, rfl, .inl (SqL.of (s.sub _ _ h1)), h2⟩
  | ref h1 =>
    obtain ⟨a, xs, e, h2, h3⟩ := list_of s (.ref h1) h
    exact ⟨a, xs, e, .inl (SqL.of h2), h3⟩
  | _ => simp [seqOf, listOf] at h
theorem f_abs : OpN X (fun xs H Q => ∃ i, xs = [.int i] ∧ Q (.int (if i < 0 then -i else i)) H) (g0 absD) := opN_of fun B m st H xs us d Q s dv hg k => by
  unfold absD at hg
  split at hg
  · cases hg
    obtain ⟨u, rfl, h⟩ := dvs1 dv
    cases h
    exact ⟨_, rfl, done s (.int _) k⟩
  · cases hg
theorem f_max2 : OpN X (fun xs H Q => ∃ i j, xs = [.int i, .int j] ∧ Q (.int (if j > i then j else i)) H) (g0 max2D) := opN_of fun B m st H xs us d Q s dv hg k => by
  unfold max2D at hg
  split at hg
  · cases hg
    obtain ⟨u, w, rfl, h1, h2⟩ := dvs2 dv
    cases h1; cases h2
    exact ⟨_, _, rfl, done s (.int _) k⟩
  · cases hg
theorem f_min2 : OpN X (fun xs H Q => ∃ i j, xs = [.int i, .int j] ∧ Q (.int (if j < i then j else i)) H) (g0 min2D) := opN_of fun B m st H xs us d Q s dv hg k => by
  unfold min2D at hg
  split at hg
  · cases hg
    obtain ⟨u, w, rfl, h1, h2⟩ := dvs2 dv
    cases h1; cases h2
    exact ⟨_, _, rfl, done s (.int _) k⟩
  · cases hg
def rLen (K : PySem.W.Frag) : List V → Hp → VK → Prop := fun xs H Q => (∃ p ys, xs = [.ref p] ∧ (SqL K H p ys ∨ SqT K H p ys) ∧ Q (.int ys.length) H) ∨ (∃ z, xs = [.str z] ∧ z.length ≤ sizeLine ∧ Q (.int z.length) H)
theorem call_lenA : CallR X (.builtin "len") (rLen X.K) := call_len_seq.or call_len_str
theorem f_len : OpN X (rLen X.K) (g0 lenD) := opN_of fun B m st H xs us d Q s dv hg k => by
  unfold lenD at hg
  split at hg
  · split at hg
    · cases hg
      obtain ⟨u, rfl, h⟩ := dvs1 dv
      cases h
      exact .inr ⟨_, rfl, le_line (by assumption), done s (.int _) k⟩
    · cases hg
  · split at hg
    · cases hg
      obtain ⟨u, rfl, h⟩ := dvs1 dv
      obtain ⟨a, xs, rfl, h1, h2⟩ := seq_of s h (by assumption)
      refine .inl ⟨a, xs, rfl, h1, ?_⟩
      rw [← h2.length]
      exact done s (.int _) k
    · cases hg
  · cases hg
theorem f_sum : OpN X (rSum X.K) (g0 sumD) := opN_of fun B m st H xs us d Q s dv hg k => by
  unfold sumD at hg
  split at hg
  · split at hg
    · split at hg
      · cases hg
        obtain ⟨u, rfl, h⟩ := dvs1 dv
        obtain ⟨a, ys, rfl, h1, h2⟩ := list_of s h (by assumption)
        have e := ints_of h2 (by assumption)
        subst e
        exact ⟨a, _, rfl, SqL.of h1, done s (.int _) k⟩
      · cases hg
    · cases hg
  · cases hg
theorem f_all : OpN X (rAll X.K) (g0 allD) := opN_of fun B m st H xs us d Q s dv hg k => by
  unfold allD at hg
  split at hg
  · split at hg
    · split at hg
      · cases hg
        obtain ⟨u, rfl, h⟩ := dvs1 dv
        obtain ⟨a, ys, rfl, h1, h2⟩ := list_of s h (by assumption)
        have e := bls_of h2 (by assumption)
        subst e
        exact ⟨a, _, rfl, SqL.of h1, done s (.bl _) k⟩
      · cases hg
    · cases hg
  · cases hg
theorem f_any : OpN X (rAny X.K) (g0 anyD) := opN_of fun B m st H xs us d Q s dv hg k => by
  unfold anyD at hg
  split at hg
  · split at hg
    · split at hg
      · cases hg
        obtain ⟨u, rfl, h⟩ := dvs1 dv
        obtain ⟨a, ys, rfl, h1, h2⟩ := list_of s h (by assumption)
        have e := bls_of h2 (by assumption)
        subst e
        exact ⟨a, _, rfl, SqL.of h1, done s (.bl _) k⟩
      · cases hg
    · cases hg
  · cases hg
def rTuple (K : PySem.W.Frag) : List V → Hp → VK → Prop := fun xs H Q => ∃ p ys, xs = [.ref p] ∧ ((SqL K H p ys ∧ ∀ l, H l = none → Q (.ref l) (upd H l (.tup ys))) ∨ (SqT K H p ys ∧ Q (.ref p) H))
theorem f_tuple : OpN X (rTuple X.K) (g0 tupleD) := opN_of fun B m st H xs us d Q s dv hg k => by
  unfold tupleD at hg
  split at hg
  · cases hg
    obtain ⟨u, rfl, h⟩ := dvs1 dv
    cases h with
    | tup h1 h2 => exact ⟨_, _, rfl, .inr ⟨s.sub.sqT h1, done s (.tup h1 h2) k⟩⟩
  · split at hg
    · cases hg
      obtain ⟨u, rfl, h⟩ := dvs1 dv
      obtain ⟨a, ys, rfl, h1, h2⟩ := list_of s h (by assumption)
      exact ⟨a, ys, rfl, .inl ⟨SqL.of h1, done_new s (fun p hp => dv_newT s hp h2) k⟩⟩
    · cases hg
  · cases hg
def rList (K : PySem.W.Frag) : List V → Hp → VK → Prop := fun xs H Q => ∃ p ys, xs = [.ref p] ∧ (SqL K H p ys ∨ SqT K H p ys) ∧ ∀ l, H l = none → Q (.ref l) (upd H l (.lst ys))
theorem f_list : OpN X (rList X.K) (g0 listD) := opN_of fun B m st H xs us d Q s dv hg k => by
  unfold listD at hg
  split at hg
  · cases hg
    obtain ⟨u, rfl, h⟩ := dvs1 dv
    cases h with
    | scr h1 => exact ⟨_, _, rfl, .inl (s.sub.sqL h1), done_new s (fun p hp => dv_newL s hp (dvs_ints _)) k⟩
  · split at hg
    · cases hg
      obtain ⟨u, rfl, h⟩ := dvs1 dv
      obtain ⟨a, ys, rfl, h1, h2⟩ := seq_of s h (by assumption)
      exact ⟨a, ys, rfl, h1, done_new s (fun p hp => dv_newL s hp h2) k⟩
    · cases hg
  · cases hg
theorem f_listM : OpN X (rList X.K) listDM := fun B m st H xs us d st' Q s dv hg k => by
  unfold listDM at hg
  split at hg
  · cases hg
    obtain ⟨u, rfl, h⟩ := dvs1 dv
    cases h with
    | scr h1 => exact ⟨_, _, rfl, .inl (s.sub.sqL h1), fun p hp => k _ _ _ _ (s.ext_newM hp) (s.newM hp (oa_lst s hp (dvs_ints _))) (dv_newR s)⟩
  · split at hg
    · cases hg
      obtain ⟨u, rfl, h⟩ := dvs1 dv
      obtain ⟨a, ys, rfl, h1, h2⟩ := seq_of s h (by assumption)
      exact ⟨a, ys, rfl, h1, fun p hp => k _ _ _ _ (s.ext_newM hp) (s.newM hp (oa_lst s hp h2)) (dv_newR s)⟩
    · cases hg
  · cases hg
theorem f_int : OpN X (fun xs H Q => (∃ i, xs = [.int i] ∧ Q (.int i) H) ∨ ∃ k, xs = [.bl k] ∧ Q (.int (if k then 1 else 0)) H) (g0 intD) := opN_of fun B m st H xs us d Q s dv hg k => by
  unfold intD at hg
  split at hg
  · cases hg
    obtain ⟨u, rfl, h⟩ := dvs1 dv
    cases h
    exact .inl ⟨_, rfl, done s (.int _) k⟩
  · cases hg
    obtain ⟨u, rfl, h⟩ := dvs1 dv
    cases h
    exact .inr ⟨_, rfl, done s (.int _) k⟩
  · cases hg
theorem ty_of {K : PySem.W.Frag} {mg : Str → Option Value} {t : String} (s : Sim K mg B m st H) (dv : DV K mg B m x u) (h : tyOf x st = some t) : TyX K H u (.type t) := by
  cases dv with
  | non => cases h; exact .base .non
  | bl b => cases h; exact .base (.bl _)
  | int b => cases h; exact .base (.int _)
  | str b => cases h; exact .base (.str _)
  | tup h1 h2 =>
    cases h
    rcases s.sub.sqT h1 with (h | ⟨o, h⟩) | ⟨o, its, n, h, c, _⟩
    · exact .base (.tup h)
    · exact .fTuple h
    · exact .kTuple h c
  | lst h1 h2 => cases h; exact .base (.lst (s.sub _ _ h1))
  | ref h1 =>
    simp only [tyOf] at h
    split at h
    · cases h
      obtain ⟨_, xs, h2, _⟩ := s.obj _ _ _ h1 (by assumption)
      exact .base (.lst h2)
    · cases h
      obtain ⟨_, xs, h2, _⟩ := s.obj _ _ _ h1 (by assumption)
      exact .base (.dK h2)
    · cases h
      obtain ⟨_, xs, h2, _⟩ := s.obj _ _ _ h1 (by assumption)
      exact .base (.dT h2)
    · cases h
  | _ => cases h
theorem tyOf_in {t : String} (h : tyOf x st = some t) : t = "NoneType" ∨ t = "bool" ∨ t = "int" ∨ t = "str" ∨ t = "tuple" ∨ t = "list" ∨ t = "dict" := by
  unfold tyOf at h
  cases x <;> simp at h <;> (try (subst h; simp))
  split at h <;> simp at h <;> (try (subst h; simp))
theorem kit_in {K : PySem.W.Frag} {t c : String} {b : Bool} (ht : t = "NoneType" ∨ t = "bool" ∨ t = "int" ∨ t = "str" ∨ t = "tuple" ∨ t = "list" ∨ t = "dict") (h : isOne t c = some b) : PySem.W.kitOne K (.type t) (.type c) = some b := by
  unfold isOne at h
  split at h
  · rename_i e; have e := eq_of_beq e; subst e; cases h
    rcases ht with rfl | rfl | rfl | rfl | rfl | rfl | rfl <;> exact kit_ty (by decide +kernel)
  split at h
  · rename_i e; have e := eq_of_beq e; subst e; cases h
    rcases ht with rfl | rfl | rfl | rfl | rfl | rfl | rfl <;> exact kit_ty (by decide +kernel)
  split at h
  · rename_i e; have e := eq_of_beq e; subst e; cases h
    rcases ht with rfl | rfl | rfl | rfl | rfl | rfl | rfl <;> exact kit_ty (by decide +kernel)
  split at h
  · rename_i e; have e := eq_of_beq e; subst e; cases h
    rcases ht with rfl | rfl | rfl | rfl | rfl | rfl | rfl <;> exact kit_ty (by decide +kernel)
  split at h
  · rename_i e; have e := eq_of_beq e; subst e; cases h
    rcases ht with rfl | rfl | rfl | rfl | rfl | rfl | rfl <;> exact kit_ty (by decide +kernel)
  split at h
  · rename_i e; have e := eq_of_beq e; subst e; cases h
    rcases ht with rfl | rfl | rfl | rfl | rfl | rfl | rfl <;> exact kit_ty (by decide +kernel)
  cases h
theorem f_isi : OpN X (rIsi X.K) (g0 isiD) := opN_of fun B m st H xs us d Q s dv hg k => by
  unfold isiD at hg
  split at hg
  · split at hg
    · split at hg
      · cases hg
        obtain ⟨u, w, rfl, h1, h2⟩ := dvs2 dv
        cases h2
        exact ⟨u, _, _, _, _, rfl, .ty _, ty_of s h1 (by assumption), kit_in (tyOf_in (by assumption)) (by assumption), done s (.bl _) k⟩
      · cases hg
    · cases hg
  · cases hg
theorem perm_insI (x : Int) : ∀ l : List Int, (insI x l).Perm (x :: l)
  | [] => .refl _
  | y :: ys => by
    unfold insI
    split
    · exact .refl _
    · exact ((perm_insI x ys).cons y).trans (.swap x y ys)
theorem perm_srtI : ∀ l : List Int, (srtI l).Perm l
  | [] => .refl _
  | x :: xs => (perm_insI x _).trans ((perm_srtI xs).cons x)
theorem pw_insI {x : Int} : ∀ {l : List Int}, l.Pairwise (· ≤ ·) → (insI x l).Pairwise (· ≤ ·)
  | [], _ => by simp [insI]
  | y :: ys, h => by
    rw [List.pairwise_cons] at h
    unfold insI
    split
    · rename_i hx
      rw [List.pairwise_cons, List.pairwise_cons]
      refine ⟨fun z hz => ?_, h⟩
      rcases List.mem_cons.mp hz with e | e
      · subst e; exact hx
      · exact Int.le_trans hx (h.1 z e)
    · rename_i hx
      rw [List.pairwise_cons]
      refine ⟨fun z hz => ?_, pw_insI h.2⟩
      rcases List.mem_cons.mp ((perm_insI x ys).mem_iff.mp hz) with e | e
      · subst e; omega
      · exact h.1 z e
theorem pw_srtI : ∀ l : List Int, (srtI l).Pairwise (· ≤ ·)
  | [] => .nil
  | x :: xs => pw_insI (pw_srtI xs)
theorem srtI_same {l l' : List Int} (p : l'.Perm l) (q : l'.Pairwise (· ≤ ·)) : l' = srtI l :=
  List.Perm.eq_of_pairwise (fun a b _ _ h1 h2 => Int.le_antisymm h1 h2) q (pw_srtI l) (p.trans (perm_srtI l).symm)
theorem f_sorted : OpN X (rSortedI X.K) (g0 sortedD) := opN_of fun B m st H xs us d Q s dv hg k => by
  unfold sortedD at hg
  split at hg
  · split at hg
    · split at hg
      · cases hg
        obtain ⟨u, rfl, h⟩ := dvs1 dv
        obtain ⟨a, ys, rfl, h1, h2⟩ := list_of s h (by assumption)
        have e := ints_of h2 (by assumption)
        subst e
        refine ⟨a, _, rfl, SqL.of h1, fun ns' p h3 h4 hp => ?_⟩
        rw [srtI_same h3 h4]
        exact done_new s (fun p hp => dv_newL s hp (dvs_ints _)) k p hp
      · cases hg
    · cases hg
  · cases hg
end

/-! ### methods -/
def recB (T : String) (x : D) (st : Sto) : Bool := match x with
  | .str _ => T == "str"
  | .lst _ => T == "list"
  | .ref n => (match st[n]? with
    | some (.lst _) => T == "list"
    | some (.dK _) => T == "dict"
    | some (.dT _) => T == "dict"
    | _ => false)
  | _ => false
def eMet (T : String) (g : D → List D → Sto → Option (D × Sto)) (o : E) (as : EA) : E := fun ρ st => (o ρ st).bind fun x st1 => if recB T x st1 then (as ρ st1).bind fun ds st2 => RE.of2 (g x ds st2) else .stuck
def appD (x : D) (ds : List D) (st : Sto) : Option (D × Sto) := match x, ds with
  | .ref n, [d] => (match st[n]? with
    | some (.lst xs) => if xs.length ≤ 1000000 then some (.non, st.set n (.lst (xs ++ [d]))) else none
    | _ => none)
  | _, _ => none
def popD (x : D) (ds : List D) (st : Sto) : Option (D × Sto) := match x, ds with
  | .ref n, [] => (match st[n]? with
    | some (.lst xs) => (match xs[xs.length - 1]? with
      | some d => some (d, st.set n (.lst xs.dropLast))
      | none => none)
    | _ => none)
  | _, _ => none
section
variable {X : Cx} {W : WX} {B B' : Hp} {m m' : List Addr} {ρ : Rho} {st st' : Sto} {σ : St} {H H' : Hp} {Q : VK} {x y d : D} {u w v : V} {ds : List D} {vs : List V} {o e : Expr} {es : List Expr} {fo fe : E} {fs : EA}
def OpM (X : Cx) (r : V → List V → Hp → VK → Prop) (g : D → List D → Sto → Option (D × Sto)) : Prop :=
  ∀ (B : Hp) (m : List Addr) (st : Sto) (H : Hp) (x : D) (u : V) (xs : List D) (us : List V) (d : D) (st' : Sto) (Q : VK), Sim X.K X.mg B m st H → DV X.K X.mg B m x u → DVs X.K X.mg B m xs us → g x xs st = some (d, st') →
    (∀ v B' m' H', Ext B m H B' m' H' → Sim X.K X.mg B' m' st' H' → DV X.K X.mg B' m' d v → Q v H') → r u us H Q
theorem rec_of {K : PySem.W.Frag} {mg : Str → Option Value} {T : String} (s : Sim K mg B m st H) (dv : DV K mg B m x u) (h : recB T x st = true) : tyV K T u H := by
  cases dv with
  | str z => exact eq_of_beq h
  | lst h1 h2 => exact .inl ⟨eq_of_beq h, _, SqL.of (s.sub _ _ h1)⟩
  | ref h1 =>
    simp only [recB] at h
    split at h
    · obtain ⟨_, xs, h2, _⟩ := s.obj _ _ _ h1 (by assumption)
      exact .inl ⟨eq_of_beq h, _, SqL.of h2⟩
    · obtain ⟨_, xs, h2, _⟩ := s.obj _ _ _ h1 (by assumption)
      exact .inr (.inr (.inl ⟨eq_of_beq h, .inl ⟨_, h2⟩⟩))
    · obtain ⟨_, xs, h2, _⟩ := s.obj _ _ _ h1 (by assumption)
      exact .inr (.inr (.inl ⟨eq_of_beq h, .inr ⟨_, h2⟩⟩))
    · cases h
  | _ => cases h
theorem r_met {T : String} {r : V → List V → Hp → VK → Prop} {g : D → List D → Sto → Option (D × Sto)} (hr : ∀ {to : TE} {ta : TA}, PE X o to → PA X es ta → PE X e (tBM X.K T r to ta)) (hg : OpM X r g) (ho : SE X W o fo) (ha : SA X W es fs) : SE X W e (eMet T g fo fs) :=
  (hr ho ha).weak fun σ H Q ⟨B, m, ρ, st, s, q⟩ => ⟨B, m, ρ, st, s, q.bind.mono fun v H1 ⟨B1, m1, st1, d, x1, s1, dv, q1⟩ => by
    dsimp only at q1
    by_cases hrec : recB T d st1 = true
    · rw [if_pos hrec] at q1
      refine ⟨rec_of s1.sim dv hrec, B1, m1, ρ, st1, s1, q1.bindA.mono fun ws H2 ⟨B2, m2, st2, ds, x2, s2, dvs, q2⟩ => ?_⟩
      dsimp only at q2
      cases hq : g d ds st2 with
      | none => rw [hq] at q2; exact q2.elim
      | some p =>
        obtain ⟨z, st3⟩ := p
        rw [hq] at q2
        exact hg _ _ _ _ _ _ _ _ _ _ _ s2.sim (dv.mono x2.bb x2.mm) dvs hq fun v' B' m' H' x3 k3 dv3 => q2 v' B' m' H' x3 (s2.mono x3 k3) dv3
    · rw [if_neg hrec] at q1
      exact q1.elim⟩
/-- no arguments -/
theorem r_met0 {T : String} {r : V → List V → Hp → VK → Prop} {g : D → List D → Sto → Option (D × Sto)} (hr : ∀ {to : TE}, PE X o to → PE X e (tBM0 X.K T r to)) (hg : OpM X r g) (ho : SE X W o fo) : SE X W e (eMet T g fo aNil) :=
  (hr ho).weak fun σ H Q ⟨B, m, ρ, st, s, q⟩ => ⟨B, m, ρ, st, s, q.bind.mono fun v H1 ⟨B1, m1, st1, d, x1, s1, dv, q1⟩ => by
    dsimp only at q1
    by_cases hrec : recB T d st1 = true
    · rw [if_pos hrec] at q1
      refine ⟨rec_of s1.sim dv hrec, ?_⟩
      change PostE X W B1 m1 H1 ρ σ Q (RE.of2 (g d [] st1)) at q1
      cases hq : g d [] st1 with
      | none => rw [hq] at q1; exact q1.elim
      | some p =>
        obtain ⟨z, st3⟩ := p
        rw [hq] at q1
        exact hg _ _ _ _ _ _ _ _ _ _ _ s1.sim dv .nil hq fun v' B' m' H' x3 k3 dv3 => q1 v' B' m' H' x3 (s1.mono x3 k3) dv3
    · rw [if_neg hrec] at q1
      exact q1.elim⟩
theorem m_app : OpM X rAppend appD := fun B m st H x u xs us d st' Q s dx dv hg k => by
  unfold appD at hg
  split at hg
  · rename_i n d1
    split at hg
    · rename_i ys hn
      split at hg
      · rename_i hl
        cases hg
        cases dx with
        | ref hm =>
          rename_i a
          obtain ⟨w, rfl, dw⟩ := dvs1 dv
          obtain ⟨hB, zs, h1, h2⟩ := s.obj _ _ _ hm hn
          have e := ext_setM (B := B) (H := H) (o := .lst (zs ++ [w])) hm
          exact ⟨a, zs, w, rfl, rfl, h1, lt_line (by rw [← h2.length]; exact hl), k _ B m _ e (s.setM hm hB ⟨hB, _, upd_same, h2.append (.cons dw .nil)⟩) .non⟩
      · cases hg
    · cases hg
  · cases hg
theorem m_pop : OpM X rPop popD := fun B m st H x u xs us d st' Q s dx dv hg k => by
  unfold popD at hg
  split at hg
  · rename_i n
    split at hg
    · rename_i ys hn
      split at hg
      · rename_i d1 hl
        cases hg
        cases dx with
        | ref hm =>
          rename_i a
          cases dv
          obtain ⟨hB, zs, h1, h2⟩ := s.obj _ _ _ hm hn
          have e := ext_setM (B := B) (H := H) (o := .lst zs.dropLast) hm
          rw [h2.length] at hl
          obtain ⟨v, hv, dv2⟩ := h2.get hl
          refine ⟨a, zs, v, rfl, rfl, h1, hv, k _ B m _ e (s.setM hm hB ⟨hB, _, upd_same, ?_⟩) dv2⟩
          rw [List.dropLast_eq_take, List.dropLast_eq_take, h2.length]
          exact h2.take _
      · cases hg
    · cases hg
  · cases hg
end
/-! ### what is walked -/
def rgD (lo : Int) : Nat → List D
  | 0 => []
  | n + 1 => .int lo :: rgD (lo + 1) n
theorem rgD_len (lo : Int) : ∀ n, (rgD lo n).length = n := fun n => by
  induction n generalizing lo with
  | zero => rfl
  | succ n ih => rw [rgD, List.length_cons, ih]
theorem rgD_get (lo : Int) (n i : Nat) {d : D} (h : (rgD lo n)[i]? = some d) : i < n ∧ d = .int (lo + i) := by
  induction n generalizing lo i with
  | zero => cases i <;> cases h
  | succ n ih =>
    cases i with
    | zero =>
      have h : some (D.int lo) = some d := h
      cases h
      exact ⟨Nat.succ_pos n, by congr 1; omega⟩
    | succ i =>
      have h : (rgD (lo + 1) n)[i]? = some d := h
      obtain ⟨h1, h2⟩ := ih (lo + 1) i h
      exact ⟨Nat.succ_lt_succ h1, by rw [h2]; congr 1; omega⟩
def RE.toA (r : RE) (k : D → Sto → RA) : RA := match r with
  | .ok d st => k d st
  | .exc x st => .exc x st
  | .stuck => .stuck
def iRg1 (a : E) : EA := fun ρ st => (a ρ st).toA fun d st1 => match d with
  | .int n => if n ≤ 1000000 ∧ -1000000 ≤ n then .ok (rgD 0 n.toNat) st1 else .stuck
  | _ => .stuck
def iRg2 (a b : E) : EA := fun ρ st => (a ρ st).toA fun x st1 => (b ρ st1).toA fun y st2 => match x, y with
  | .int i, .int j => if i ≤ 1000000 ∧ -1000000 ≤ i ∧ j ≤ 1000000 ∧ -1000000 ≤ j then .ok (rgD i (j - i).toNat) st2 else .stuck
  | _, _ => .stuck
def iSeq (a : E) : EA := fun ρ st => (a ρ st).toA fun d st1 => match d with
  | .lst ds => .ok ds st1
  | .tup ds => .ok ds st1
  | _ => .stuck
section
variable {X : Cx} {W : WX} {B B' : Hp} {m m' : List Addr} {ρ : Rho} {st st' : Sto} {σ : St} {H H' : Hp} {Q : VK} {R : It → Hp → Prop} {e a b tg : Expr} {fa fb : E}
theorem PostI.ext {r : RA} (x : Ext B m H B' m' H') (h : PostI X W B m H ρ σ R r) : PostI X W B' m' H' ρ σ R r := by
  cases r with
  | ok ds st => exact fun J B2 m2 H2 e2 s sv => h J B2 m2 H2 (x.trans e2) s sv
  | exc x1 st => exact PostX.ext x h
  | stuck => exact h
def MidI (X : Cx) (W : WX) (B : Hp) (m : List Addr) (H : Hp) (ρ : Rho) (σ : St) (R : It → Hp → Prop) (k : D → Sto → RA) (v : V) (H1 : Hp) : Prop :=
  ∃ B1 m1 st1 d, Ext B m H B1 m1 H1 ∧ Stt X B1 m1 ρ st1 σ H1 ∧ DV X.K X.mg B1 m1 d v ∧ PostI X W B1 m1 H1 ρ σ R (k d st1)
theorem PostI.toE {r : RE} {k : D → Sto → RA} (h : PostI X W B m H ρ σ R (r.toA k)) : PostE X W B m H ρ σ (MidI X W B m H ρ σ R k) r := by
  cases r with
  | ok d st => exact fun v B1 m1 H1 e s dv => ⟨B1, m1, st, d, e, s, dv, PostI.ext e h⟩
  | exc x st => exact h
  | stuck => exact h
theorem serves_rg {lo : Int} {n : Nat} : Serves X (Itr lo n) B m (rgD lo n) := fun B1 m1 st1 H1 hB hm s i =>
  ⟨fun d hd => by
    obtain ⟨h1, h2⟩ := rgD_get lo n i hd
    subst h2
    refine ⟨h1, fun x H2 hy => ?_⟩
    obtain ⟨e1, e2⟩ := hy
    subst e1 e2
    exact ⟨B1, Ext.refl _ _ _, s, .int _⟩, fun h => by rw [rgD_len] at h; exact h⟩
theorem i_rg1 {p pos : Pos} (hg : Gl X "range") (hm : X.mg "range" = none) (ha : SE X W a fa) (h1 : starEach [a] X.env = (false, eval a X.env) :: starEach [] X.env := by rfl) (hs : starEach [a] X.env = [(false, eval a X.env)] := by rfl) :
    SI X W tg (.Call (.Name "range" p) [a] [] pos) (iRg1 fa) :=
  (pi_range1 hg hm (pa_cons ha pa_nil h1) hs).weak fun σ H R ⟨B, m, ρ, st, s, q⟩ => ⟨B, m, ρ, st, s, q.toE.mono fun v H1 ⟨B1, m1, st1, d, x1, s1, dv, q1⟩ => by
    cases dv with
    | int n =>
      dsimp only at q1
      split at q1
      · rename_i hl
        exact ⟨n, rfl, by omega, by omega, q1 _ B1 m1 H1 (Ext.refl _ _ _) s1 serves_rg⟩
      · exact q1.elim
    | _ => exact q1.elim⟩
theorem i_rg2 {p pos : Pos} (hg : Gl X "range") (hm : X.mg "range" = none) (ha : SE X W a fa) (hb : SE X W b fb) (h1 : starEach [a, b] X.env = (false, eval a X.env) :: starEach [b] X.env := by rfl) (h2 : starEach [b] X.env = (false, eval b X.env) :: starEach [] X.env := by rfl)
    (hs : starEach [a, b] X.env = [(false, eval a X.env), (false, eval b X.env)] := by rfl) (hs2 : starEach [b] X.env = [(false, eval b X.env)] := by rfl) :
    SI X W tg (.Call (.Name "range" p) [a, b] [] pos) (iRg2 fa fb) :=
  (pi_range2 hg hm (pa_cons ha (pa_cons hb pa_nil h2) h1) hs hs2).weak fun σ H R ⟨B, m, ρ, st, s, q⟩ => ⟨B, m, ρ, st, s, q.toE.mono fun v H1 ⟨B1, m1, st1, d, x1, s1, dv, q1⟩ =>
    ⟨B1, m1, ρ, st1, s1, q1.toE.mono fun w H2 ⟨B2, m2, st2, d2, x2, s2, dw, q2⟩ => by
      cases dv with
      | int n =>
        cases dw with
        | int k =>
          dsimp only at q2
          split at q2
          · rename_i hl
            exact ⟨n, k, rfl, ⟨by omega, by omega, by omega, by omega⟩, q2 _ B2 m2 H2 (Ext.refl _ _ _) s2 serves_rg⟩
          · exact q2.elim
        | _ => exact q2.elim
      | _ => exact q2.elim⟩⟩
theorem serves_lst {K : Addr} {xs : List V} {ds : List D} {a : Addr} (h : B a = some (.lst xs)) (hd : DVs X.K X.mg B m ds xs) : Serves X (Itl X.K a) B m ds := fun B1 m1 st1 H1 hB hm s i => by
  have hs : SqL X.K H1 a xs := SqL.of (s.sub _ _ (hB _ _ h))
  refine ⟨fun d hd' => ?_, fun hl => ⟨xs, hs, by rw [← hd.length]; exact hl⟩⟩
  obtain ⟨v, hv, dv⟩ := hd.get hd'
  refine ⟨⟨xs, v, hs, hv⟩, fun x H2 hy => ?_⟩
  obtain ⟨e1, e2⟩ := hy
  subst e1
  have e3 := e2 xs hs
  rw [hv] at e3
  cases e3
  exact ⟨B1, Ext.refl _ _ _, s, dv.mono hB hm⟩
theorem serves_tup {xs : List V} {ds : List D} {a : Addr} (h : SqT X.K B a xs) (hd : DVs X.K X.mg B m ds xs) : Serves X (Itt X.K a) B m ds := fun B1 m1 st1 H1 hB hm s i => by
  have hs : SqT X.K H1 a xs := s.sub.sqT (hB.sqT h)
  refine ⟨fun d hd' => ?_, fun hl => ⟨xs, hs, by rw [← hd.length]; exact hl⟩⟩
  obtain ⟨v, hv, dv⟩ := hd.get hd'
  refine ⟨⟨xs, v, hs, hv⟩, fun x H2 hy => ?_⟩
  obtain ⟨e1, e2⟩ := hy
  subst e1
  have e3 := e2 xs hs
  rw [hv] at e3
  cases e3
  exact ⟨B1, Ext.refl _ _ _, s, dv.mono hB hm⟩
theorem _root_.L2.PI.or {tg l : Expr} {w1 w2 : TI} (h1 : PI X tg l w1) (h2 : PI X tg l w2) : PI X tg l (fun σ H R => w1 σ H R ∨ w2 σ H R) := ⟨fun pins s σ H R I h => by
  rcases h with h | h
  · exact h1.run pins s σ H R I h
  · exact h2.run pins s σ H R I h⟩
theorem i_seq (ha : SE X W a fa) : SI X W tg a (iSeq fa) :=
  (PI.or (pi_list (tg := tg) ha) (pi_tup (tg := tg) ha)).weak fun σ H R ⟨B, m, ρ, st, s, q⟩ => by
    unfold iSeq at q
    cases h : fa ρ st with
    | exc x st1 => rw [h] at q; exact .inl ⟨B, m, ρ, st, s, by rw [h]; exact q⟩
    | stuck => rw [h] at q; exact q.elim
    | ok d st1 =>
      rw [h] at q
      match d, q, h with
      | .lst ds, q, h =>
        refine .inl ⟨B, m, ρ, st, s, ?_⟩
        rw [h]
        intro v B1 m1 H1 x1 s1 dv
        cases dv with
        | lst h1 h2 => exact ⟨_, rfl, ⟨_, SqL.of (s1.sim.sub _ _ h1)⟩, q _ B1 m1 H1 x1 s1 (serves_lst (K := 0) h1 h2)⟩
      | .tup ds, q, h =>
        refine .inr ⟨B, m, ρ, st, s, ?_⟩
        rw [h]
        intro v B1 m1 H1 x1 s1 dv
        cases dv with
        | tup h1 h2 => exact ⟨_, rfl, ⟨_, s1.sim.sub.sqT h1⟩, q _ B1 m1 H1 x1 s1 (serves_tup h1 h2)⟩
      | .non, q, _ => exact q.elim
      | .bl _, q, _ => exact q.elim
      | .int _, q, _ => exact q.elim
      | .str _, q, _ => exact q.elim
      | .ref _, q, _ => exact q.elim
      | .fn _, q, _ => exact q.elim
      | .ty _, q, _ => exact q.elim
      | .scr _, q, _ => exact q.elim
end
/-! ### raise -/
/-- what the top has left of an error class of the module -/
structure ExcF (K : PySem.W.Frag) (mg : Str → Option Value) (x : Str) (C : Addr) : Prop where
  g : mg x = some (.ref C)
  x : PySem.W.excIn K C [.type "ValueError", .type "Exception", .type "BaseException", .type "object"] "ValueError.__new__" = true
  k : PySem.W.keepIn K (.ref C) = true
  b : PySem.W.subIn K (.ref C) (.type "BaseException") = some true
  t : PySem.W.typeIn K (.ref C) = some (.type "type")
def sRaise (x : Str) : S := fun ρ st => .exc ⟨x⟩ ρ st
section
variable {X : Cx} {W : WX}
theorem s_raise {x msg : Str} {C : Addr} {j : Nat} {p p2 pos pos' : Pos} (hc : X.calm = true) (tk : Takes X W) (F : ExcF X.K X.mg x C) (hg : Gl X x) (hdb : (x == ("__debug__" : Str)) = false := by decide) :
    SS X W (.Raise (some (.Call (.Name x p) [.Constant (.str msg) j p2] [] pos)) none pos') (sRaise x) :=
  (ps_raise hc tk (pmk_own PySem.F.excBase_ValueError F.x F.g F.k (raises_own F.b F.t) hg hdb)).weak fun Dn σ H ⟨B, m, ρ, st, s, q⟩ => q _ _ B m σ H (Ext.refl _ _ _) s ⟨rfl, C, F.g, rfl⟩
end
end L4
namespace L4
open PySem L2
open PyProof.Rows (envOfC)

def putD (x y d : D) (st : Sto) : Option Sto := match x, y with
  | .ref n, .int i => (match st[n]? with
    | some (.lst ds) => (match ixN ds.length i with
      | some j => some (st.set n (.lst (ds.set j d)))
      | none => none)
    | _ => none)
  | _, _ => none
def sPut (e o i : E) : S := fun ρ st => (e ρ st).toS ρ fun d st1 => (o ρ st1).toS ρ fun x st2 => (i ρ st2).toS ρ fun y st3 => match putD x y d st3 with
  | some st4 => .nx ρ st4
  | none => .stuck
def cutD (ds : List D) (lo hi : Option Int) : List D := (ds.drop (HT.sIx ds.length 0 lo)).take (HT.sIx ds.length ds.length hi - HT.sIx ds.length 0 lo)
inductive RP where
  | ok (o : Option Int) (st : Sto) | exc (x : Exn) (st : Sto) | stuck
abbrev EPt := Rho → Sto → RP
def pNone : EPt := fun _ st => .ok none st
def pSome (e : E) : EPt := fun ρ st => match e ρ st with
  | .ok (.int i) st1 => .ok (some i) st1
  | .ok _ _ => .stuck
  | .exc x st1 => .exc x st1
  | .stuck => .stuck
def RP.bind (r : RP) (k : Option Int → Sto → RE) : RE := match r with
  | .ok d st => k d st
  | .exc x st => .exc x st
  | .stuck => .stuck
def slD (x : D) (lo hi : Option Int) (st : Sto) : Option D := match x with
  | .tup ds => some (.tup (cutD ds lo hi))
  | x => (match listOf x st with
    | some ds => some (.lst (cutD ds lo hi))
    | none => none)
def eSl (a : E) (lo hi : EPt) : E := fun ρ st => (a ρ st).bind fun x st1 => (lo ρ st1).bind fun l st2 => (hi ρ st2).bind fun h st3 => RE.of (slD x l h st3) st3
def revD (x : D) (st : Sto) : Option D := match x with
  | .tup ds => some (.tup ds.reverse)
  | x => (match listOf x st with
    | some ds => some (.lst ds.reverse)
    | none => none)
section
variable {X : Cx} {W : WX} {B B' : Hp} {m m' : List Addr} {ρ : Rho} {st st' : Sto} {σ : St} {H H' : Hp} {Q : VK} {x y d : D} {u w v : V} {ds : List D} {vs : List V} {o e i a : Expr} {fo fe fi fa fl fh : E}
theorem s_put {pos pos' : Pos} (he : SE X W e fe) (ho : SE X W o fo) (hi : SE X W i fi)
    (ha : ∀ v, assign (.Subscript o i pos) X.env v = (do
      let ov ← holding [v] (eval o X.env)
      let iv ← holding [v, ov] (eval i X.env)
      standAt pos
      holding [v, ov, iv] (setItem ov iv v)
      release [v, ov, iv] []) := by intro _; rfl)
    (hs : swapsWithSole [.Subscript o i pos] e pos'.line X.env = pure false := by rfl) (hw : swappedStores [.Subscript o i pos] e X.env = pure none := by rfl)
    (h1 : (assignEach [.Subscript o i pos] X.env).map (·.2) = [assign (.Subscript o i pos) X.env] := by rfl) : SS X W (.Assign [.Subscript o i pos] e pos') (sPut fe fo fi) :=
  (ps_asg he (pg_sub ho hi set_list ha) hs hw h1).weak fun Dn σ H ⟨B, m, ρ, st, s, q⟩ => ⟨B, m, ρ, st, s, q.toE.mono fun v H1 ⟨B1, m1, st1, d, x1, s1, dv, q1⟩ =>
    ⟨B1, m1, ρ, st1, s1, q1.toE.mono fun w H2 ⟨B2, m2, st2, d2, x2, s2, dw, q2⟩ => ⟨B2, m2, ρ, st2, s2, q2.toE.mono fun z H3 ⟨B3, m3, st3, d3, x3, s3, dz, q3⟩ => by
      dsimp only at q3
      cases hp : putD d2 d3 d st3 with
      | none => rw [hp] at q3; exact q3.elim
      | some st4 =>
        rw [hp] at q3
        dsimp only at q3
        have dw := dw.mono x3.bb x3.mm
        have dv := (dv.mono x2.bb x2.mm).mono x3.bb x3.mm
        unfold putD at hp
        cases dw with
        | @ref n a' hm =>
          cases dz with
          | int j =>
            dsimp only at hp
            split at hp
            · rename_i ds hn
              split at hp
              · rename_i jj hj
                cases hp
                obtain ⟨hB, zs, h1, h2⟩ := s3.sim.obj _ _ _ hm hn
                rw [h2.length] at hj
                have e := ext_setM (B := B3) (H := H3) (o := .lst (zs.set jj v)) hm
                have k := s3.sim.setM (mo := .lst (ds.set jj d)) hm hB ⟨hB, _, upd_same, h2.set dv jj⟩
                exact ⟨a', zs, j, jj, rfl, rfl, h1, hj, PostS.nx (s3.mono e k) (PostS.ext e q3)⟩
              · cases hp
            · cases hp
          | _ => cases hp
        | _ => cases hp⟩⟩⟩

/-! ### slices -/
def PostP (X : Cx) (W : WX) (B : Hp) (m : List Addr) (H : Hp) (ρ : Rho) (σ : St) (Q : Option Int → Hp → Prop) : RP → Prop
  | .ok o st => ∀ B' m' H', Ext B m H B' m' H' → Stt X B' m' ρ st σ H' → Q o H'
  | .exc x st => PostX X W B m H x ρ st
  | .stuck => False
def tO (X : Cx) (W : WX) (f : EPt) : TO := fun σ H Q => ∃ B m ρ st, Stt X B m ρ st σ H ∧ PostP X W B m H ρ σ Q (f ρ st)
abbrev SO (X : Cx) (W : WX) (o : Option Expr) (f : EPt) : Prop := PO X o (tO X W f)
theorem _root_.L2.PO.weak {X : Cx} {e : Option Expr} {t t' : TO} (h : PO X e t) (w : ∀ σ H Q, t' σ H Q → t σ H Q) : PO X e t' := ⟨fun pins s σ H Q I q => h.run pins s σ H Q I (w σ H Q q)⟩
theorem so_none : SO X W none pNone := po_none.weak fun σ H Q ⟨B, m, ρ, st, s, q⟩ => q B m H (Ext.refl _ _ _) s
theorem so_some (h : SE X W e fe) : SO X W (some e) (pSome fe) := (po_some h).weak fun σ H Q ⟨B, m, ρ, st, s, q⟩ => by
  refine ⟨B, m, ρ, st, s, ?_⟩
  unfold pSome at q
  cases hf : fe ρ st with
  | exc x st1 => rw [hf] at q; exact q
  | stuck => rw [hf] at q; exact q
  | ok d st1 =>
    rw [hf] at q
    intro v B1 m1 H1 x1 s1 dv
    cases dv with
    | int i => exact ⟨i, rfl, q B1 m1 H1 x1 s1⟩
    | _ => exact q.elim
theorem PostP.ext {Q : Option Int → Hp → Prop} {r : RP} (x : Ext B m H B' m' H') (h : PostP X W B m H ρ σ Q r) : PostP X W B' m' H' ρ σ Q r := by
  cases r with
  | ok ds st => exact fun B2 m2 H2 e2 s => h B2 m2 H2 (x.trans e2) s
  | exc x1 st => exact PostX.ext x h
  | stuck => exact h
theorem PostE.bindP {r : RP} {k : Option Int → Sto → RE} (h : PostE X W B m H ρ σ Q (r.bind k)) : PostP X W B m H ρ σ (fun o H1 => ∃ B1 m1 st1, Ext B m H B1 m1 H1 ∧ Stt X B1 m1 ρ st1 σ H1 ∧ PostE X W B1 m1 H1 ρ σ Q (k o st1)) r := by
  cases r with
  | ok o st => exact fun B1 m1 H1 e s => ⟨B1, m1, st, e, s, PostE.ext e h⟩
  | exc x st => exact h
  | stuck => exact h
theorem PostP.mono {Q Q' : Option Int → Hp → Prop} {r : RP} (h : PostP X W B m H ρ σ Q r) (k : ∀ o H', Q o H' → Q' o H') : PostP X W B m H ρ σ Q' r := by
  cases r with
  | ok o st => exact fun B' m' H' e s => k o H' (h B' m' H' e s)
  | exc x st => exact h
  | stuck => exact h
theorem DVs.cut {K : PySem.W.Frag} {mg : Str → Option Value} (h : DVs K mg B m ds vs) (lo hi : Option Int) : DVs K mg B m (cutD ds lo hi) (cutV vs lo hi) := by
  unfold cutD cutV
  rw [h.length]
  exact (h.drop _).take _
def rSlS (K : PySem.W.Frag) : V → Option Int → Option Int → Hp → VK → Prop := fun x lo hi H Q => rSlA K x lo hi H Q ∨ rSlL K x lo hi H Q
theorem sl_seq : L2.SlR X (rSlS X.K) := sl_tupA.or sl_list
theorem cut_whole {α : Type} {xs : List α} {i j : Nat} (h : i = 0 ∧ j = xs.length) : (xs.drop i).take (j - i) = xs := by
  rw [h.1, h.2, List.drop_zero, Nat.sub_zero, List.take_length]
theorem cut_same {K : PySem.W.Frag} {mg : Str → Option Value} {lo hi : Option Int} (h : DVs K mg B m ds vs) (hw : HT.sIx vs.length 0 lo = 0 ∧ HT.sIx vs.length vs.length hi = vs.length) : cutD ds lo hi = ds := by
  unfold cutD
  rw [h.length]
  exact cut_whole (by rw [h.length]; exact hw)
theorem r_sl {lo hi : Option Expr} {fl fh : EPt} {p2 pos : Pos} (ha : SE X W a fa) (hl : SO X W lo fl) (hh : SO X W hi fh) : SE X W (.Subscript a (.Slice lo hi none p2) pos) (eSl fa fl fh) :=
  (pe_slice sl_seq ha hl hh).weak fun σ H Q ⟨B, m, ρ, st, s, q⟩ => ⟨B, m, ρ, st, s, q.bind.mono fun v H1 ⟨B1, m1, st1, d, x1, s1, dv, q1⟩ =>
    ⟨B1, m1, ρ, st1, s1, q1.bindP.mono fun l H2 ⟨B2, m2, st2, x2, s2, q2⟩ => ⟨B2, m2, ρ, st2, s2, q2.bindP.mono fun h H3 ⟨B3, m3, st3, x3, s3, q3⟩ => by
      obtain ⟨z, hz, q3⟩ := q3.of
      have dv := (dv.mono x2.bb x2.mm).mono x3.bb x3.mm
      have k : ∀ v B' H', Ext B3 m3 H3 B' m3 H' → Sim X.K X.mg B' m3 st3 H' → DV X.K X.mg B' m3 z v → Q v H' := fun v B' H' e s dv => q3 v B' m3 H' e (s3.mono e s) dv
      unfold slD at hz
      split at hz
      · cases hz
        cases dv with
        | @tup _ a' xs h1 h2 =>
          refine .inl ⟨a', xs, rfl, s3.sim.sub.sqT h1, fun hw => ?_, fun _ => done_new s3.sim (fun p hp => dv_newT s3.sim hp (h2.cut l h)) k⟩
          refine done s3.sim ?_ k
          rw [cut_same h2 hw]
          exact .tup h1 h2
      · split at hz
        · cases hz
          obtain ⟨a', xs, rfl, h1, h2⟩ := list_of s3.sim dv (by assumption)
          exact .inr ⟨a', xs, rfl, SqL.of h1, done_new s3.sim (fun p hp => dv_newL s3.sim hp (h2.cut l h)) k⟩
        · cases hz⟩⟩⟩
end
end L4
namespace L4
open PySem L2
open PyProof.Rows (envOfC)

/-! ### short words for a text's terms -/
section
variable {X : Cx} {W : WX} {a b c e : Expr} {fa fb fc fe : E}
theorem v (i : Nat) {x : Str} {pos : Pos} (hN : X.N[i]? = some x := by rfl) (hv : Vis X.env.scope x := by first | exact Or.inl rfl | exact Or.inr (Or.inl rfl) | exact Or.inr (Or.inr rfl)) (hd : (x == ("__debug__" : Str)) = false := by decide)
    (hcd : (x == ("__classdict__" : Str)) = false := by decide) : SE X W (.Name x pos) (eV i) := r_v (pe_var hN hv hd hcd)
theorem ci {i j pos} : SE X W (.Constant (.int i) j pos) (eC (.int i)) := r_c pe_int fun _ _ => .int _
theorem cb {i j pos} : SE X W (.Constant (.bool i) j pos) (eC (.bl i)) := r_c pe_bl fun _ _ => .bl _
theorem cn {j pos} : SE X W (.Constant .none j pos) (eC .non) := r_c pe_non fun _ _ => .non
theorem cs {i j pos} : SE X W (.Constant (.str i) j pos) (eC (.str i)) := r_c pe_str fun _ _ => .str _
theorem cty {x : Str} {T : String} {pos : Pos} (hg : Gl X x) (hm : X.mg x = none) (hv : bootBuiltins x = some (.type T)) (hn : x ≠ "__name__" := by decide) (hd : (x == ("__debug__" : Str)) = false := by decide) : SE X W (.Name x pos) (eC (.ty T)) := r_c (pe_bltn (v := .ty T) hg hm hv rfl hn hd) fun _ _ => .ty _
def IsInt (mg : Str → Option Value) (x : Str) (i : Int) : Prop := ∃ t, mg x = some (.int i t)
theorem cgi {x : Str} {i : Int} {pos : Pos} (h : IsInt X.mg x i) (hg : Gl X x) (hd : (x == ("__debug__" : Str)) = false := by decide) : SE X W (.Name x pos) (eC (.int i)) := by
  obtain ⟨t, h⟩ := h
  exact r_c (pe_glob (v := .int i) hg h ⟨t, rfl⟩ hd) fun _ _ => .int _
theorem add {pos} (ha : SE X W a fa) (hb : SE X W b fb) : SE X W (.BinOp a .Add b pos) (e2 addD fa fb) := r_e2 (fun a b => pe_op op_addA a b) o_add ha hb
theorem sub {pos} (ha : SE X W a fa) (hb : SE X W b fb) : SE X W (.BinOp a .Sub b pos) (e2 subD fa fb) := r_e2 (fun a b => pe_op op_sub a b) o_sub ha hb
theorem mul {pos} (ha : SE X W a fa) (hb : SE X W b fb) : SE X W (.BinOp a .Mult b pos) (e2 mulD fa fb) := r_e2 (fun a b => pe_op op_mulA a b) o_mul ha hb
theorem fdiv {pos} (ha : SE X W a fa) (hb : SE X W b fb) : SE X W (.BinOp a .FloorDiv b pos) (e2 fdivD fa fb) := r_e2 (fun a b => pe_op op_fdivZ a b) o_fdiv ha hb
theorem mod {pos} (ha : SE X W a fa) (hb : SE X W b fb) : SE X W (.BinOp a .Mod b pos) (e2 modD fa fb) := r_e2 (fun a b => pe_op op_modN a b) o_mod ha hb
theorem shl {pos} (ha : SE X W a fa) (hb : SE X W b fb) : SE X W (.BinOp a .LShift b pos) (e2 shlD fa fb) := r_e2 (fun a b => pe_op op_shl a b) o_shl ha hb
theorem shr {pos} (ha : SE X W a fa) (hb : SE X W b fb) : SE X W (.BinOp a .RShift b pos) (e2 shrD fa fb) := r_e2 (fun a b => pe_op op_shr a b) o_shr ha hb
theorem pow {pos} (ha : SE X W a fa) (hb : SE X W b fb) : SE X W (.BinOp a .Pow b pos) (e2 powD fa fb) := r_e2 (fun a b => pe_op op_pow a b) o_pow ha hb
theorem band {pos} (ha : SE X W a fa) (hb : SE X W b fb) : SE X W (.BinOp a .BitAnd b pos) (e2 andD fa fb) := r_e2 (fun a b => pe_op op_and a b) o_and ha hb
theorem bor {pos} (ha : SE X W a fa) (hb : SE X W b fb) : SE X W (.BinOp a .BitOr b pos) (e2 orD fa fb) := r_e2 (fun a b => pe_op op_or a b) o_or ha hb
theorem neg {pos} (ha : SE X W a fa) : SE X W (.UnaryOp .USub a pos) (e1 negD fa) := r_e1 (fun a => pe_un un_neg a) o_neg ha
theorem lt {pos} (ha : SE X W a fa) (hb : SE X W b fb) : SE X W (.Compare a [.Lt] [b] pos) (e2 ltD fa fb) := r_e2 (fun a b => pe_cmpR op_lt a b (nomark _)) o_lt ha hb
theorem le {pos} (ha : SE X W a fa) (hb : SE X W b fb) : SE X W (.Compare a [.LtE] [b] pos) (e2 leD fa fb) := r_e2 (fun a b => pe_cmpR op_le a b (nomark _)) o_le ha hb
theorem gt {pos} (ha : SE X W a fa) (hb : SE X W b fb) : SE X W (.Compare a [.Gt] [b] pos) (e2 gtD fa fb) := r_e2 (fun a b => pe_cmpR op_gt a b (nomark _)) o_gt ha hb
theorem ge {pos} (ha : SE X W a fa) (hb : SE X W b fb) : SE X W (.Compare a [.GtE] [b] pos) (e2 geD fa fb) := r_e2 (fun a b => pe_cmpR op_ge a b (nomark _)) o_ge ha hb
theorem eq (hu : X.A.units + 64 < cLine) {pos} (ha : SE X W a fa) (hb : SE X W b fb) : SE X W (.Compare a [.Eq] [b] pos) (e2 eqD fa fb) := r_e2 (fun a b => pe_cmpR (op_eqD hu) a b (nomark _)) o_eq ha hb
theorem ne (hu : X.A.units + 64 < cLine) {pos} (ha : SE X W a fa) (hb : SE X W b fb) : SE X W (.Compare a [.NotEq] [b] pos) (e2 neD fa fb) := r_e2 (fun a b => pe_cmpR (op_neD hu) a b (nomark _)) o_ne ha hb
theorem is_ {pos} (ha : SE X W a fa) (hb : SE X W b fb) : SE X W (.Compare a [.Is] [b] pos) (e2 isD fa fb) := r_e2 (fun a b => pe_cmpR op_isN a b (nomark _)) o_is ha hb
theorem isnot {pos} (ha : SE X W a fa) (hb : SE X W b fb) : SE X W (.Compare a [.IsNot] [b] pos) (e2 isnotD fa fb) := r_e2 (fun a b => pe_cmpR op_notN a b (nomark _)) o_isnot ha hb
theorem ix {pos} (ha : SE X W a fa) (hb : SE X W b fb) (hs : PlainIx b := by exact fun _ _ => rfl) : SE X W (.Subscript a b pos) (e2 ixD fa fb) := r_e2 (fun a b => pe_ix ix_seq a b hs) o_ix ha hb
/-- a built-in called -/
theorem bf {id : String} {r : List V → Hp → VK → Prop} {g : List D → Sto → Option (D × Sto)} {x : Str} {p pos : Pos} {es : List Expr} {fs : EA} (hc : CallR X (.builtin id) r) (ho : OpN X r g) (hm : X.mg x = none) (hg : Gl X x) (hv : bootBuiltins x = some (.builtin id)) (ha : SA X W (e :: es) fs)
    (hn : x ≠ "__name__" := by decide) (hdb : (x == ("__debug__" : Str)) = false := by decide)
    (he : starEach (e :: es) X.env = (false, eval e X.env) :: starEach es X.env := by rfl) (hpl : (backTo pos (starEach es X.env)).any (·.1) = false := by rfl) : SE X W (.Call (.Name x p) (e :: es) [] pos) (eN g fs) :=
  r_eN (fun a => pe_callB hc hg hm hv a hn hdb he hpl) ho ha
theorem bt {T : String} {r : List V → Hp → VK → Prop} {g : List D → Sto → Option (D × Sto)} {x : Str} {p pos : Pos} {es : List Expr} {fs : EA} (hc : CallR X (.type T) r) (ho : OpN X r g) (hm : X.mg x = none) (hg : Gl X x) (hv : bootBuiltins x = some (.type T)) (ha : SA X W (e :: es) fs)
    (hn : x ≠ "__name__" := by decide) (hdb : (x == ("__debug__" : Str)) = false := by decide)
    (he : starEach (e :: es) X.env = (false, eval e X.env) :: starEach es X.env := by rfl) (hpl : (backTo pos (starEach es X.env)).any (·.1) = false := by rfl) : SE X W (.Call (.Name x p) (e :: es) [] pos) (eN g fs) :=
  r_eN (fun a => pe_callTy hc hg hm hv a hn hdb he hpl) ho ha
theorem app {o : Expr} {fo : E} {apos cpos : Pos} (ho : SE X W o fo) (he : SE X W e fe)
    (hbase : attributeBase o "append" X.env (eval o X.env) = eval o X.env := by rfl)
    (hfew : ((backTo cpos (starEach [e] X.env)).all (fun x => !x.1) && (backToKw cpos (keywordEach [] X.env)).all (fun x => x.1.isSome)
      && decide ([e].length + ([] : List Keyword).length + (if ([] : List Keyword).isEmpty then 0 else 1) < 30)) = true := by rfl)
    (hline : (apos.endLine == cpos.line) = true := by rfl) (hs : starEach [e] X.env = (false, eval e X.env) :: starEach [] X.env := by rfl) (hplain : (backTo cpos (starEach [] X.env)).any (·.1) = false := by rfl) :
    SE X W (.Call (.Attribute o "append" apos) [e] [] cpos) (eMet "list" appD fo (aCons fe aNil)) :=
  r_met (T := "list") (fun h1 h2 => pe_bm PySem.F.plainAttrs_list PySem.F.slot_list_append PySem.F.type_list_append mt_append h1 h2 hbase hfew hline hs hplain) m_app ho (ra_cons he ra_nil hs)
end

/-! ### the text's defs -/
/-- a def as the top has left it -/
def DefF (K : PySem.W.Frag) (mg : Str → Option Value) (x : Str) (st : Stmt) : Prop := ∃ f fd, Fun K x x st f fd ∧ mg x = some (.ref f)
/-- a def that may be called: its level, its parameters, its worth -/
def CallF (P : Program) (w : World) (K : PySem.W.Frag) (mg : Str → Option Value) (base : Heap) (k : Nat) (x : Str) (ps : List Str) (F : List D → Sto → RE) : Prop :=
  ∃ f fd, FnOk P w K mg base (L2.CX P w) k f fd ps (spF K mg F) ∧ mg x = some (.ref f) ∧ PySem.W.keepIn K (.ref f) = true ∧ Binds K fd ps []
theorem mk_call {P : Program} {w : World} {K : PySem.W.Frag} {mg : Str → Option Value} {base : Heap} {k : Nat} {x : Str} {st : Stmt} {N ps : List Str} {g : S} (Df : DefF K mg x st) (Sc : FnScope N ps (defScope st))
    (hbind : ∀ (kV doc pm : Value) (an : Option Addr) (cdv ct : Value) (us : List Value), us.length = ps.length → bindArgs (PySem.W.fnOf x x (defArgs st) (defBody st) (defScope st) .none kV doc pm an cdv ct) ⟨us, []⟩ = pure (ps.zip us))
    (hb : BodyOk P w K mg base N x (defScope st) k (defBody st) g) : CallF P w K mg base (k + 1) x ps (mkF ps.length N.length g) := by
  obtain ⟨f, fd, F, hm⟩ := Df
  exact ⟨f, fd, fn_ok F Sc hb, hm, F.kp, F.binds hbind⟩
theorem CallF.imp {P : Program} {w : World} {K : PySem.W.Frag} {mg : Str → Option Value} {base : Heap} {k j : Nat} {x : Str} {ps : List Str} {F G : List D → Sto → RE} (C : CallF P w K mg base k x ps F) (hk : k ≤ j) (h : F = G) : CallF P w K mg base j x ps G := by
  subst h
  obtain ⟨f, fd, a, b⟩ := C
  exact ⟨f, fd, a.mono hk, b⟩
section
variable {X : Cx} {W : WX} {B B' : Hp} {m m' : List Addr} {ρ : Rho} {st st' : Sto} {σ : St} {H H' : Hp} {Q : VK} {e : Expr} {es : List Expr} {fs : EA} {k j : Nat} {x : Str} {ps : List Str} {F : List D → Sto → RE} {p pos : Pos}
theorem call (C : CallF X.prog X.w X.K X.mg X.base k x ps F) (hr : Room j X.A) (tk : Takes X W) (hg : Gl X x) (hk : k ≤ j) (ha : SA X W (e :: es) fs) (hdb : (x == ("__debug__" : Str)) = false := by decide)
    (he : starEach (e :: es) X.env = (false, eval e X.env) :: starEach es X.env := by rfl) (hpl : (backTo pos (starEach es X.env)).any (·.1) = false := by rfl) : SE X W (.Call (.Name x p) (e :: es) [] pos) (eCall F fs) := by
  obtain ⟨f, fd, G, hm, hkp, hb⟩ := C
  exact r_call G (hr.mono hk) hg hm hkp hb tk ha hdb he hpl
theorem callm (C : CallF X.prog X.w X.K X.mg X.base k x ps F) (hr : Room j X.A) (tk : Takes X W) (hg : Gl X x) (hk : k ≤ j) (ha : SA X W (e :: es) fs) (hdb : (x == ("__debug__" : Str)) = false := by decide)
    (he : starEach (e :: es) X.env = (false, eval e X.env) :: starEach es X.env := by rfl) (hpl : (backTo pos (starEach es X.env)).any (·.1) = false := by rfl) : SE X W (.Call (.Name x p) (e :: es) [] pos) (eCallM F fs) := by
  obtain ⟨f, fd, G, hm, hkp, hb⟩ := C
  exact r_callM G (hr.mono hk) hg hm hkp hb tk ha hdb he hpl
end
/-- a call that hands back a new list of the store -/
def callN (F : List D → Sto → RE) (ds : List D) (st : Sto) : RE :=
  if ds.all (nr 12) then match F ds [] with
    | .ok (.ref n) st' => (match st'[n]? with
      | some o => if o.nr then .ok (.ref st.length) (st ++ [o]) else .stuck
      | none => .stuck)
    | _ => .stuck
  else .stuck
def eCallN (F : List D → Sto → RE) (as : EA) : E := fun ρ st => (as ρ st).bind fun ds st1 => callN F ds st1
section
variable {X : Cx} {W : WX} {B B' : Hp} {m m' : List Addr} {ρ : Rho} {st st' : Sto} {σ : St} {H H' : Hp} {Q : VK} {e : Expr} {es : List Expr} {fs : EA} {k j : Nat} {x : Str} {ps : List Str} {F : List D → Sto → RE} {p pos : Pos}
theorem Sim.afterN {K : PySem.W.Frag} {mg : Str → Option Value} (s : Sim K mg B m st H) (x : Ext B [] H B' m' H') (k : Sim K mg B' m' st' H') {n : Nat} {a : Addr} {o : MO} (ha : m'[n]? = some a) (ho : st'[n]? = some o) (hn : o.nr = true) :
    Sim K mg B' (m ++ [a]) (st ++ [o]) H' ∧ Ext B m H B' (m ++ [a]) H' := by
  obtain ⟨k1, e1⟩ := s.after0 x k
  have am : a ∈ m' := List.mem_of_getElem? ha
  have na : H a = none := by
    rcases x.mn a am with z | z
    · simp at z
    · exact z
  obtain ⟨u, hu⟩ := k.own a am
  have oa := (k.obj n a o ha ho).pure (m' := m ++ [a]) hn
  refine ⟨⟨k1.sub, by simp [k1.len], ?_, fun i b o' h1 h2 => ?_, fun b h => ?_⟩, ⟨e1.bb, e1.bn, ⟨[a], rfl⟩, fun b h => ?_, e1.fr, e1.st⟩⟩
  · rw [List.nodup_append]
    refine ⟨s.nd, by simp, fun b hb c hc => ?_⟩
    rw [List.mem_singleton] at hc
    subst hc
    exact fun z => s.pm na (z ▸ hb)
  · by_cases hi : i < m.length
    · rw [List.getElem?_append_left hi] at h1
      rw [List.getElem?_append_left (by rw [← s.len]; exact hi)] at h2
      exact (k1.obj i b o' h1 h2).mono (Sub.refl _) ⟨[a], rfl⟩ (fun _ h => h) fun _ h => h
    · rw [List.getElem?_append_right (by omega)] at h1
      rw [List.getElem?_append_right (by rw [← s.len]; omega)] at h2
      rw [s.len] at h1
      cases hk : i - st.length with
      | zero =>
        rw [hk] at h1 h2
        simp at h1 h2
        subst h1; subst h2
        exact oa
      | succ k => rw [hk] at h1; simp at h1
  · rcases List.mem_append.mp h with z | z
    · exact k1.own b z
    · rw [List.mem_singleton] at z; subst z; exact ⟨u, hu⟩
  · rcases List.mem_append.mp h with z | z
    · exact .inl z
    · rw [List.mem_singleton] at z; subst z; exact .inr na
theorem post_callN {ds : List D} {vs : List V} (s : Stt X B m ρ st σ H) (dv : DVs X.K X.mg B m ds vs) (q : PostE X W B m H ρ σ Q (callN F ds st)) : spF X.K X.mg F vs H Q (WE W σ) := by
  unfold callN at q
  by_cases hp : ds.all (nr 12) = true
  · rw [if_pos hp] at q
    refine ⟨B, [], ds, [], s.sim.empty, dv.pure hp, ?_⟩
    revert q
    cases F ds [] with
    | ok d st2 =>
      intro q v B' m' H' e k dr
      cases dr with
      | @ref n a ha =>
        dsimp only at q
        cases ho : st2[n]? with
        | none => rw [ho] at q; exact q.elim
        | some o =>
          rw [ho] at q
          dsimp only at q
          by_cases hn : o.nr = true
          · rw [if_pos hn] at q
            obtain ⟨k1, e1⟩ := s.sim.afterN e k ha ho hn
            exact q _ B' (m ++ [a]) H' e1 (s.mono e1 k1) (.ref (by rw [← s.sim.len]; simp))
          · rw [if_neg hn] at q; exact q.elim
      | _ => exact q.elim
    | exc x st2 => exact fun q => q.elim
    | stuck => exact fun q => q.elim
  · rw [if_neg hp] at q; exact q.elim
theorem calln (C : CallF X.prog X.w X.K X.mg X.base k x ps F) (hr : Room j X.A) (tk : Takes X W) (hg : Gl X x) (hk : k ≤ j) (ha : SA X W (e :: es) fs) (hdb : (x == ("__debug__" : Str)) = false := by decide)
    (he : starEach (e :: es) X.env = (false, eval e X.env) :: starEach es X.env := by rfl) (hpl : (backTo pos (starEach es X.env)).any (·.1) = false := by rfl) : SE X W (.Call (.Name x p) (e :: es) [] pos) (eCallN F fs) := by
  obtain ⟨f, fd, G, hm, hkp, hb⟩ := C
  exact (pe_callS G (hr.mono hk) hg hm hkp hb (fun σ => passAt tk σ) ha hdb he hpl).weak fun σ H Q ⟨B, m, ρ, st, s, q⟩ => ⟨B, m, ρ, st, s, q.bindA.mono fun v H1 ⟨B1, m1, st1, d, x1, s1, dv, q1⟩ => post_callN s1 dv q1⟩
end
end L4
namespace L4T
open PySem PySem.W PyProof.Rows
section
variable {prog : Program} {w : World} {A : Around} {E : Value → Shared → Prop} {s : Shared}
theorem sliceApplied_rev {sl : Addr} {vs : Value} {n : Nat} {Q : Int × Int × Nat → Shared → Prop} (hs : s.heap.IsSliceOf sl .none .none vs) (ps : IsPart vs (some (-1)))
    (h : Q ((n : Int) - 1, -1, n) s) : wpAny (model prog w) A (Builtin.Slice.sliceApplied (.ref sl) (pure (n : Int))) Q E s := by
  obtain ⟨os, hos, hcs, hds⟩ := id hs
  unfold Builtin.Slice.sliceApplied Builtin.Slice.sliceFields
  refine wpAny_bind (wpAny_bind (wpAny_field hos hds (x := .none) rfl (wpAny_bind (wpAny_field hos hds (x := .none) rfl (wpAny_bind (wpAny_field hos hds (x := vs) rfl (wpAny_pure ?_)))))))
  refine wpAny_bind (HT.slicePart_ ps ?_)
  show wpAny _ _ (if ((-1 : Int) == 0) = true then _ else _) _ _ s
  rw [if_neg (by decide)]
  refine wpAny_bind (slicePart_none (wpAny_bind (slicePart_none (wpAny_bind (wpAny_pure ?_)))))
  show wpAny _ _ (pure ((n : Int) - 1, (-1 : Int), Builtin.Slice.slicePlaces ((n : Int) - 1) (-1) (-1))) _ _ s
  have e : Builtin.Slice.slicePlaces ((n : Int) - 1) (-1) (-1) = n := by
    unfold Builtin.Slice.slicePlaces
    rw [if_neg (by decide)]
    by_cases h : (n : Int) - 1 > -1
    · rw [if_pos h, show (- -1 : Int) = 1 by decide, Int.ediv_one]
      omega
    · rw [if_neg h]
      omega
  rw [e]
  exact wpAny_pure h
theorem fm_congr {α β : Type} {f g : α → Option β} : ∀ {l : List α}, (∀ x ∈ l, f x = g x) → l.filterMap f = l.filterMap g
  | [], _ => rfl
  | x :: l, h => by
    rw [List.filterMap_cons, List.filterMap_cons, h x (by simp), fm_congr fun y hy => h y (by simp [hy])]
theorem pick_rev (xs : Array Value) : ((List.range xs.size).filterMap fun (m : Nat) => xs[((xs.size : Int) - 1 + (m : Int) * (-1)).toNat]?).toArray = xs.toList.reverse.toArray := by
  have e : ((List.range xs.size).filterMap fun (m : Nat) => xs[((xs.size : Int) - 1 + (m : Int) * (-1)).toNat]?) = ((List.range xs.size).map fun k => xs.size - 1 - k).filterMap (xs[·]?) := by
    rw [List.filterMap_map]
    refine fm_congr fun m hm => ?_
    have : ((xs.size : Int) - 1 + (m : Int) * (-1)).toNat = xs.size - 1 - m := by
      have := List.mem_range.mp hm
      omega
    rw [this]
    rfl
  rw [e, PySem.W.krv_range, List.filterMap_reverse, PySem.W.krv_all]
theorem getItem_tuple_rev {t sl : Addr} {items : Array Value} {vs : Value} {Q : Value → Shared → Prop} (ht : IsTup s.heap t items) (hs : s.heap.IsSliceOf sl .none .none vs) (ps : IsPart vs (some (-1)))
    (h : Q (.ref s.heap.objs.size) { s with heap := s.heap.push { cls := .type "tuple", data := .seq items.toList.reverse.toArray } })
    (hsz : items.size ≤ sizeLine) : wpAny (model prog w) A (getItem (.ref t) (.ref sl)) Q E s := by
  have htake : sizeOk (.seq items.toList.reverse.toArray) := by
    show items.toList.reverse.toArray.size ≤ sizeLine
    rw [List.size_toArray, List.length_reverse, Array.length_toList]
    exact hsz
  obtain ⟨os, hos, hcs, hds⟩ := id hs
  have hTs : s.TypeIs (.ref sl) "slice" := ⟨os, hos, hcs⟩
  unfold getItem
  try with_reducible refine wpAny_holding ?_
  first | refine wpAny_bind (wpAny_pure ?_) | skip
  refine wpAny_bind (wpAny_sequenceKey ht.typeIs (by decide) ?_)
  refine wpAny_bind (wpAny_callSpecial?_slot (name := Str.ofString "__getitem__") ht.typeIs PyProof.Rows.slot_tuple_getitem
    (wpAny_call_entry PyProof.Rows.slot_tuple_getitem ht.typeIs entry_tuple_getitem ?_ (args_tuple_getitem _ _)))
  show wpAny _ _ (Builtin.Tuple.tupleItemsOf (.ref t) >>= _) _ _ s
  refine wpAny_bind (tupleItemsOf_ ht ?_)
  refine wpAny_bind (wpAny_typeOf hTs ?_)
  rw [if_pos (by decide)]
  refine wpAny_bind (sliceApplied_rev hs ps ?_)
  have hno : ¬ ((((items.size : Int) - 1) == 0 && (-1 : Int) == 1 && items.size == items.size) = true) := by
    intro q
    rw [Bool.and_eq_true, Bool.and_eq_true] at q
    exact absurd q.1.2 (by decide)
  show wpAny _ _ (if ((((items.size : Int) - 1) == 0 && (-1 : Int) == 1 && items.size == items.size) = true) then _ else _) _ _ s
  rw [if_neg hno, pick_rev]
  first
    | exact wpAny_bind (m := Builtin.Tuple.tupleExact _) (wpAny_newObj_type (wpAny_pure ⟨_, rfl, wpAny_pure h⟩) htake)
    | exact wpAny_bind (m := Builtin.Tuple.tupleExact _) (wpAny_newObj_type (wpAny_bind (wpAny_pure (wpAny_pure ⟨_, rfl, wpAny_pure h⟩))) htake)
    | exact wpAny_bind (wpAny_bind (m := Builtin.Tuple.tupleExact _) (wpAny_newObj_type (wpAny_pure (wpAny_pure ⟨_, rfl, wpAny_pure h⟩)) htake))
    | exact wpAny_bind (wpAny_bind (m := Builtin.Tuple.tupleExact _) (wpAny_newObj_type (wpAny_pure ⟨_, rfl, wpAny_pure h⟩) htake))
end
end L4T
namespace L2
open PySem PySem.Spec PyProof.Rows
/-! ### xs[::-1] -/
def tRevA (K : PySem.W.Frag) (te : TE) : TE := fun σ H Q => te σ H fun x H1 => ∃ a xs, x = .ref a ∧ ((SqL K H1 a xs ∧ ∀ p, H1 p = none → Q (.ref p) (upd H1 p (.lst xs.reverse))) ∨ (SqT K H1 a xs ∧ ∀ p, H1 p = none → Q (.ref p) (upd H1 p (.tup xs.reverse))))
theorem pe_revA {X : Cx} {e : Expr} {te : TE} {k : Nat} {p1 p2 p3 pos : Pos} (he : PE X e te) : PE X (.Subscript e (.Slice none none (some (.UnaryOp .USub (.Constant (.int 1) k p1) p2)) p3) pos) (tRevA X.K te) := by
  refine ⟨fun pins s σ H Q I h => ?_⟩
  refine PyProof.Rows.Subscript_ (thn (he.run pins s σ H _ I h) fun v s1 ⟨x, H1, I1, r1, q1⟩ => ?_)
  obtain ⟨a, xs, ex, q⟩ := q1
  subst ex
  cases r1
  have hst : PO X (some (.UnaryOp .USub (.Constant (.int 1) k p1) p2)) (tPart (tUn (rU fun i => .int (-i)) (tC (.int 1)))) := po_some (pe_un un_neg pe_int)
  refine wpAny_Slice (thn (po_none.run pins s1 σ H1 (fun o H2 => o = none ∧ H2 = H1) I1 ⟨rfl, rfl⟩) fun vl s2 ⟨l, H2, I2, pl, el, e2⟩ => ?_)
  subst el e2
  refine thn (po_none.run pins s2 σ H2 (fun o H3 => o = none ∧ H3 = H2) I2 ⟨rfl, rfl⟩) fun vu s3 ⟨u, H3, I3, pu, eu, e3⟩ => ?_
  subst eu e3
  refine thn (hst.run pins s3 σ H3 (fun o H4 => o = some (-1) ∧ H4 = H3) I3 ⟨1, rfl, -1, rfl, rfl, rfl⟩) fun vs s4 ⟨o, H4, I4, ps, eo, e4⟩ => ?_
  subst eo e4
  have I5 : Inv X pins σ H4 { s4 with heap := s4.heap.push { cls := .type "slice", data := .fields #[vl, vu, vs] } } := I4.kept (t' := s4.toks) fun b ob q => Heap.get?_push_of_some _ q
  show wpAny (model X.prog X.w) X.A (subscriptTail e (.Slice none none (some (.UnaryOp .USub (.Constant (.int 1) k p1) p2)) p3) (.ref a) (.ref s4.heap.objs.size)) (EP X pins σ Q) X.xe { s4 with heap := s4.heap.push { cls := .type "slice", data := .fields #[vl, vu, vs] } }
  rcases q with ⟨hx, q⟩ | ⟨hx, q⟩
  · obtain ⟨its, r, ht, hz⟩ := I5.list hx
    have hlen := r.length
    refine PyProof.Rows.tail_any (ops := [.ref a, .ref s4.heap.objs.size]) ht.isList.typeIs (PySem.slot_list_getitem.lookup) ?_ (by with_unfolding_all rfl)
    refine wpAny_getItem_list_slice ht.isList (Heap.IsSliceOf.new _ vl vu vs) pl pu ps (by decide) ?_ (by rw [List.size_toArray]; omega)
    rw [PySem.W.krv_pick]
    refine ⟨.ref _, _, I5.laid (t' := s4.toks) (o := .lst xs.reverse) (fun b ob q => Heap.get?_push_of_some _ q) (Nat.le_refl _) ?_, rfl, q _ (I5.hok.fresh (Nat.le_refl _))⟩
    exact ⟨by rw [List.length_reverse]; exact hz, _, 0, r.reverse, Heap.get?_push_size _ rfl⟩
  · obtain ⟨its, r, ht, hz⟩ := I5.tuple hx
    have hlen := r.length
    have e1 : vl = .none := by cases pl; rfl
    have e2 : vu = .none := by cases pu; rfl
    subst e1 e2
    refine PyProof.Rows.tail_any (ops := [.ref a, .ref s4.heap.objs.size]) ht.typeIs (PyProof.Rows.slot_tuple_getitem.lookup) ?_ (by with_unfolding_all rfl)
    refine L4T.getItem_tuple_rev ht (Heap.IsSliceOf.new _ .none .none vs) ps ?_ (by rw [List.size_toArray]; omega)
    refine ⟨.ref _, _, I5.laid (t' := s4.toks) (o := .tup xs.reverse) (fun b ob q => Heap.get?_push_of_some _ q) (Nat.le_refl _) ?_, rfl, q _ (I5.hok.fresh (Nat.le_refl _))⟩
    exact ⟨by rw [List.length_reverse]; exact hz, _, r.reverse, PyProof.Rows.IsTup.new _ _⟩
end L2
namespace L4
open PySem L2
open PyProof.Rows (envOfC)
section
variable {X : Cx} {W : WX} {B B' : Hp} {m m' : List Addr} {ρ : Rho} {st st' : Sto} {σ : St} {H H' : Hp} {Q : VK} {a b c e : Expr} {fa fb fc fe : E}
theorem r_rev {k : Nat} {p1 p2 p3 pos : Pos} (ha : SE X W a fa) : SE X W (.Subscript a (.Slice none none (some (.UnaryOp .USub (.Constant (.int 1) k p1) p2)) p3) pos) (e1 revD fa) :=
  (pe_revA ha).weak fun σ H Q ⟨B, m, ρ, st, s, q⟩ => ⟨B, m, ρ, st, s, q.bind.mono fun v H1 ⟨B1, m1, st1, d, x1, s1, dv, q1⟩ => by
    obtain ⟨z, hz, q1⟩ := q1.of
    have k : ∀ v B' H', Ext B1 m1 H1 B' m1 H' → Sim X.K X.mg B' m1 st1 H' → DV X.K X.mg B' m1 z v → Q v H' := fun v B' H' e s dv => q1 v B' m1 H' e (s1.mono e s) dv
    unfold revD at hz
    split at hz
    · cases hz
      cases dv with
      | @tup _ a' xs h1 h2 => exact ⟨a', xs, rfl, .inr ⟨s1.sim.sub.sqT h1, done_new s1.sim (fun p hp => dv_newT s1.sim hp h2.reverse) k⟩⟩
    · split at hz
      · cases hz
        obtain ⟨a', xs, rfl, h1, h2⟩ := list_of s1.sim dv (by assumption)
        exact ⟨a', xs, rfl, .inl ⟨SqL.of h1, done_new s1.sim (fun p hp => dv_newL s1.sim hp h2.reverse) k⟩⟩
      · cases hz⟩
end
/-! ### x += e -/
def augA (x y : D) : Option D := match x, y with
  | .int i, .int j => some (.int (i + j))
  | _, _ => none
def augS (x y : D) : Option D := match x, y with
  | .int i, .int j => some (.int (i - j))
  | _, _ => none
def sAug (g : D → D → Option D) (i : Nat) (e : E) : S := fun ρ st => match ρ[i]? with
  | some (some x) => (e ρ st).toS ρ fun y st1 => match g x y with
    | some z => .nx (ρ.set i (some z)) st1
    | none => .stuck
  | _ => .stuck
def sPar3 (i j l : Nat) (a b c : E) : S := fun ρ st => (a ρ st).toS ρ fun x st1 => (b ρ st1).toS ρ fun y st2 => (c ρ st2).toS ρ fun z st3 => .nx (((ρ.set i (some x)).set j (some y)).set l (some z)) st3
section
variable {X : Cx} {W : WX} {B B' : Hp} {m m' : List Addr} {ρ : Rho} {st st' : Sto} {σ : St} {H H' : Hp} {Q : VK} {a b c e : Expr} {fa fb fc fe : E}
theorem s_aug {i : Nat} {x : Str} {op : Operator} {g : D → D → Option D} {f : Int → Int → Int} {pos pos' : Pos} (hp : PIp X op (ipI f)) (hg : ∀ x y z, g x y = some z → ∃ i j, x = .int i ∧ y = .int j ∧ z = .int (f i j)) (hN : X.N.Nodup) (hi : X.N[i]? = some x) (hx : Loc X.env.scope x) (he : SE X W e fe)
    (hf : X.fn x = true ∨ X.env.scope.names.lookup x = some .local := by first | exact .inl rfl | exact .inr rfl | assumption) : SS X W (.AugAssign (.Name x pos') op e pos) (sAug g i fe) :=
  (ps_aug hN hi hx he hp hf).weak fun Dn σ H ⟨B, m, ρ, st, s, q⟩ => by
    unfold sAug at q
    cases hr : ρ[i]? with
    | none => rw [hr] at q; exact q.elim
    | some o =>
      cases o with
      | none => rw [hr] at q; exact q.elim
      | some x =>
        rw [hr] at q
        obtain ⟨u, h1, h2⟩ := s.sl.2 i x hr
        refine ⟨u, h1, B, m, ρ, st, s, PostE.mono (PostS.toE q) fun w H1 ⟨B1, m1, st1, y, x1, s1, dy, q1⟩ => ?_⟩
        dsimp only at q1
        cases hz : g x y with
        | none => rw [hz] at q1; exact q1.elim
        | some z =>
          rw [hz] at q1
          obtain ⟨a, b, rfl, rfl, rfl⟩ := hg x y z hz
          cases h2
          cases dy
          exact ⟨a, b, rfl, rfl, PostS.nx (s1.setR (.int _) i) q1⟩
theorem augA_ok (x y z : D) (h : augA x y = some z) : ∃ i j, x = .int i ∧ y = .int j ∧ z = .int (i + j) := by
  unfold augA at h
  split at h
  · cases h; exact ⟨_, _, rfl, rfl, rfl⟩
  · cases h
theorem augS_ok (x y z : D) (h : augS x y = some z) : ∃ i j, x = .int i ∧ y = .int j ∧ z = .int (i - j) := by
  unfold augS at h
  split at h
  · cases h; exact ⟨_, _, rfl, rfl, rfl⟩
  · cases h
theorem s_augA {i : Nat} {x : Str} {pos pos' : Pos} (hN : X.N.Nodup) (hi : X.N[i]? = some x) (hx : Loc X.env.scope x) (he : SE X W e fe)
    (hf : X.fn x = true ∨ X.env.scope.names.lookup x = some .local := by first | exact .inl rfl | exact .inr rfl | assumption) : SS X W (.AugAssign (.Name x pos') .Add e pos) (sAug augA i fe) := s_aug ip_add augA_ok hN hi hx he hf
theorem s_augS {i : Nat} {x : Str} {pos pos' : Pos} (hN : X.N.Nodup) (hi : X.N[i]? = some x) (hx : Loc X.env.scope x) (he : SE X W e fe)
    (hf : X.fn x = true ∨ X.env.scope.names.lookup x = some .local := by first | exact .inl rfl | exact .inr rfl | assumption) : SS X W (.AugAssign (.Name x pos') .Sub e pos) (sAug augS i fe) := s_aug ip_sub augS_ok hN hi hx he hf
theorem call_stuck {P : Program} {w : World} {K : PySem.W.Frag} {mg : Str → Option Value} {base : Heap} {k : Nat} {x : Str} {st : Stmt} {ps : List Str} (Df : DefF K mg x st)
    (hbind : ∀ (kV doc pm : Value) (an : Option Addr) (cdv ct : Value) (us : List Value), us.length = ps.length → bindArgs (PySem.W.fnOf x x (defArgs st) (defBody st) (defScope st) .none kV doc pm an cdv ct) ⟨us, []⟩ = pure (ps.zip us)) :
    CallF P w K mg base k x ps (fun _ _ => .stuck) := by
  obtain ⟨f, fd, F, hm⟩ := Df
  exact ⟨f, fd, ⟨fun vs H Q Ex ⟨B, m, ds, st, s, dv, q⟩ => q.elim, fun A outer s H args us vs Q Ex hr e0 hb r ⟨B, m, ds, st, si, dv, q⟩ => q.elim⟩, hm, F.kp, F.binds hbind⟩
end
end L4
namespace L4
open PySem L2
section
variable {X : Cx} {W : WX} {e a b c : Expr} {fa fb fc fe : E}
theorem rt_e2 {r : R2} {g : D → D → Sto → Option D} (hr : ∀ {ta tb : TE}, PE X a ta → PE X b tb → PT X e (tTest (tOp r ta tb))) (ho : Op2 X r g) (ha : SE X W a fa) (hb : SE X W b fb) : ST X W e (e2 g fa fb) :=
  (hr ha hb).weak fun σ H Q ⟨B, m, ρ, st, s, q⟩ => ⟨B, m, ρ, st, s, q.bind.mono fun v H1 ⟨B1, m1, st1, d, x1, s1, dv, q1⟩ =>
    ⟨B1, m1, ρ, st1, s1, q1.bind.mono fun w H2 ⟨B2, m2, st2, d2, x2, s2, dw, q2⟩ => by
      obtain ⟨z, hz, q2⟩ := q2.of
      exact ho _ _ _ _ _ _ _ _ _ _ s2.sim (dv.mono x2.bb x2.mm) dw hz fun v' B' H' x3 k3 dv3 => q2 v' B' m2 H' x3 (s2.mono x3 k3) dv3⟩⟩
theorem tlt {pos} (ha : SE X W a fa) (hb : SE X W b fb) : ST X W (.Compare a [.Lt] [b] pos) (e2 ltD fa fb) := rt_e2 (fun a b => pt_cmpR op_lt a b (nomark _)) o_lt ha hb
theorem tle {pos} (ha : SE X W a fa) (hb : SE X W b fb) : ST X W (.Compare a [.LtE] [b] pos) (e2 leD fa fb) := rt_e2 (fun a b => pt_cmpR op_le a b (nomark _)) o_le ha hb
theorem tgt {pos} (ha : SE X W a fa) (hb : SE X W b fb) : ST X W (.Compare a [.Gt] [b] pos) (e2 gtD fa fb) := rt_e2 (fun a b => pt_cmpR op_gt a b (nomark _)) o_gt ha hb
theorem tge {pos} (ha : SE X W a fa) (hb : SE X W b fb) : ST X W (.Compare a [.GtE] [b] pos) (e2 geD fa fb) := rt_e2 (fun a b => pt_cmpR op_ge a b (nomark _)) o_ge ha hb
theorem teq (hu : X.A.units + 64 < cLine) {pos} (ha : SE X W a fa) (hb : SE X W b fb) : ST X W (.Compare a [.Eq] [b] pos) (e2 eqD fa fb) := rt_e2 (fun a b => pt_cmpR (op_eqD hu) a b (nomark _)) o_eq ha hb
theorem tne (hu : X.A.units + 64 < cLine) {pos} (ha : SE X W a fa) (hb : SE X W b fb) : ST X W (.Compare a [.NotEq] [b] pos) (e2 neD fa fb) := rt_e2 (fun a b => pt_cmpR (op_neD hu) a b (nomark _)) o_ne ha hb
theorem tis_ {pos} (ha : SE X W a fa) (hb : SE X W b fb) : ST X W (.Compare a [.Is] [b] pos) (e2 isD fa fb) := rt_e2 (fun a b => pt_cmpR op_isN a b (nomark _)) o_is ha hb
theorem tisnot {pos} (ha : SE X W a fa) (hb : SE X W b fb) : ST X W (.Compare a [.IsNot] [b] pos) (e2 isnotD fa fb) := rt_e2 (fun a b => pt_cmpR op_notN a b (nomark _)) o_isnot ha hb
end
end L4
namespace L4
open PySem L2
theorem mk_callF {P : Program} {w : World} {K : PySem.W.Frag} {mg : Str → Option Value} {base : Heap} {k : Nat} {x : Str} {st : Stmt} (N ps : List Str) (g : S) {F : List D → Sto → RE} (hF : F = mkF ps.length N.length g) (Df : DefF K mg x st) (Sc : FnScope N ps (defScope st))
    (hbind : ∀ (kV doc pm : Value) (an : Option Addr) (cdv ct : Value) (us : List Value), us.length = ps.length → bindArgs (PySem.W.fnOf x x (defArgs st) (defBody st) (defScope st) .none kV doc pm an cdv ct) ⟨us, []⟩ = pure (ps.zip us))
    (hb : BodyOk P w K mg base N x (defScope st) k (defBody st) g) : CallF P w K mg base (k + 1) x ps F := by
  subst hF
  exact mk_call Df Sc hbind hb
end L4
namespace L4
open PySem L2
/-- as many turns as the number in the slot i, and one -/
def muI (i : Nat) : Rho → Sto → Nat := fun ρ _ => match ρ[i]? with
  | some (some (.int n)) => n.natAbs + 1
  | _ => 0
def sWhileM (c : E) (b : S) (μ : Rho → Sto → Nat) : S := fun ρ st => sWhile c b (μ ρ st) ρ st
theorem s_whileM {X : Cx} {W : WX} {c : Expr} {fc : E} {gb : S} {pos} {body : List Stmt} (μ : Rho → Sto → Nat) (hp : PassesOwn (model X.prog X.w) X.A X.env X.xe) (hc : ST X W c fc) (hb : SSs X W body gb) : SS X W (.While c body [] pos) (sWhileM fc gb μ) :=
  ⟨fun pins s σ H D I ⟨B, m, ρ, st, h, q⟩ => (s_while (pos := pos) (μ ρ st) hp hc hb).run pins s σ H D I ⟨B, m, ρ, st, h, q⟩⟩
end L4
namespace L4
open PySem L2
/-! ### the law's end -/
def spLaw (K : PySem.W.Frag) : Sp := fun vs H Q _ => ∃ (a : Addr) (ns : List Int), vs = [.ref a] ∧ SqL K H a (ns.map V.int) ∧ ns.length ≤ 63 ∧ ∀ H', Q (.bl true) H'
theorem law_end {P : Program} {w : World} {K : PySem.W.Frag} {mg : Str → Option Value} {base : Heap} {k : Nat} {f : Addr} {fd : FuncData} {F : List D → Sto → RE} (G : FnOk P w K mg base (L2.CX P w) k f fd ["script"] (spF K mg F))
    (hl : ∀ ns : List Int, ns.length ≤ 63 → ∃ st, F [.scr ns] [] = .ok (.bl true) st) : FnOk P w K mg base (L2.CX P w) k f fd ["script"] (spLaw K) :=
  G.imp fun vs H Q Ex ⟨a, ns, e, hs, hn, q⟩ => by
    subst e
    refine ⟨H, [], [.scr ns], [], ⟨Sub.refl H, rfl, List.nodup_nil, fun n a o h => by simp at h, fun a h => by simp at h⟩, .cons (.scr hs) .nil, ?_⟩
    obtain ⟨st, h⟩ := hl ns hn
    rw [h]
    intro v B' m' H' e k dv
    cases dv
    exact q H'
theorem law_fd {K : PySem.W.Frag} {st : Stmt} {f : Addr} {fd : FuncData} (F : Fun K "law" "law" st f fd)
    (h : ∀ (kV doc pm : Value) (an : Option Addr) (cdv ct v : Value), bindArgs (PySem.W.fnOf "law" "law" (defArgs st) (defBody st) (defScope st) .none kV doc pm an cdv ct) ⟨[v], []⟩ = pure ([(("script" : Str), v)] : List (Str × Value))) :
    ∀ (s : Shared) (v : Value), BindsTo s fd ⟨[v], []⟩ [("script", v)] := by
  obtain ⟨oc, od, kV, doc, pm, an, cdv, ct, osl, rfl, lk, hcd⟩ := F.ex
  exact fun s v => .of_eq (h kV doc pm an cdv ct v)
theorem law_walk {l : PySem.W.OpenLaw} {q : Program} {loose : List Str} {XP : (Str → Option Value) → Heap → Prop} {YP : World → Heap → Prop} {d : DefRec} {K : Params → PySem.W.Frag} {k : Nat} (hn : l.most = some 63) (hdf : d.params.defaults = []) (hr : Room k callerA)
    (hY : ∀ (w : World) (h : Heap), YP w h → (K w.params).In h)
    (F : ∀ (w : World) (mg : Str → Option Value) (fa : Addr) (h : Heap), (K w.params).In h → h.Ns mainGlobals mg → mg d.name = some (.ref fa) →
      ∃ fd : FuncData, (∀ (s : Shared) (u : Value), BindsTo s fd ⟨[u], []⟩ [("script", u)]) ∧ ∀ base : Heap, (K w.params).In base → base.Ns mainGlobals mg → FnOk l.prog w (K w.params) mg base (L2.CX l.prog w) k fa fd ["script"] (spLaw (K w.params))) :
    PySem.W.WalkO q loose XP YP l.row.toRowW d [] (fun f vs => PySem.call f vs) :=
  L2.walk_of (n := 63) (k := k) (x := "script") (CX := fun w => L2.CX l.prog w) (sp := fun w => spLaw (K w.params)) hn (by decide) hdf hr hY F (fun _ _ a ns hl _ hS => ⟨a, ns, rfl, hS, hl, fun _ => rfl⟩) fun w H s e s' h => by
    obtain ⟨_, _, _, _, _, _, _, _, _, _, _, _, z⟩ := h
    exact z
theorem fn_okF {P : Program} {w : World} {K : PySem.W.Frag} {mg : Str → Option Value} {base : Heap} {k : Nat} {x : Str} {st : Stmt} {f : Addr} {fd : FuncData} (N ps : List Str) (g : S) {F : List D → Sto → RE} (hF : F = mkF ps.length N.length g) (Df : Fun K x x st f fd) (Sc : FnScope N ps (defScope st))
    (hb : BodyOk P w K mg base N x (defScope st) k (defBody st) g) : FnOk P w K mg base (L2.CX P w) (k + 1) f fd ps (spF K mg F) := by
  subst hF
  exact fn_ok Df Sc hb
end L4
namespace L4
open PySem L2
/-! ### plain: reckoning the combinators, the first part first -/
def rgOk (n : Int) : Bool := decide (n ≤ 1000000 ∧ -1000000 ≤ n)
theorem rgOk_of {n : Int} (h1 : -1000000 ≤ n) (h2 : n ≤ 1000000) : rgOk n = true := decide_eq_true ⟨h2, h1⟩
theorem rgOk_nat {n : Nat} (h2 : n ≤ 1000000) : rgOk (n : Int) = true := rgOk_of (by omega) (by omega)
@[simp] theorem rgOk_0 : rgOk 0 = true := rgOk_of (by decide) (by decide)
@[simp] theorem rgOk_1 : rgOk 1 = true := rgOk_of (by decide) (by decide)
@[simp] theorem rgOk_2 : rgOk 2 = true := rgOk_of (by decide) (by decide)
theorem rgOk_succ {n : Nat} (h2 : n < 1000000) : rgOk ((n : Int) + 1) = true := rgOk_of (by omega) (by omega)
def lenOk (n : Nat) : Bool := decide (n ≤ 1000000)
theorem lenOk_of {n : Nat} (h : n ≤ 1000000) : lenOk n = true := decide_eq_true h
def un1 (g : D → Sto → Option D) : RE → RE
  | .ok x st => RE.of (g x st) st | .exc x st => .exc x st | .stuck => .stuck
def bn' (g : D → D → Sto → Option D) (x : D) : RE → RE
  | .ok y st => RE.of (g x y st) st | .exc x st => .exc x st | .stuck => .stuck
def bn (g : D → D → Sto → Option D) (b : E) (ρ : Rho) : RE → RE
  | .ok x st => bn' g x (b ρ st) | .exc x st => .exc x st | .stuck => .stuck
def nN (g : List D → Sto → Option (D × Sto)) : RA → RE
  | .ok ds st => RE.of2 (g ds st) | .exc x st => .exc x st | .stuck => .stuck
def ac' (d : D) : RA → RA
  | .ok ds st => .ok (d :: ds) st | .exc x st => .exc x st | .stuck => .stuck
def ac (as : EA) (ρ : Rho) : RE → RA
  | .ok d st => ac' d (as ρ st) | .exc x st => .exc x st | .stuck => .stuck
def tp : RA → RE
  | .ok ds st => if ds.length ≤ 1000000 then .ok (.tup ds) st else .stuck | .exc x st => .exc x st | .stuck => .stuck
def lp : RA → RE
  | .ok ds st => if ds.length ≤ 1000000 then .ok (.lst ds) st else .stuck | .exc x st => .exc x st | .stuck => .stuck
def lpM : RA → RE
  | .ok ds st => if ds.length ≤ 1000000 then .ok (.ref st.length) (st ++ [.lst ds]) else .stuck | .exc x st => .exc x st | .stuck => .stuck
def ifE (a b : E) (ρ : Rho) : RE → RE
  | .ok (.bl true) st => a ρ st | .ok (.bl false) st => b ρ st | .ok _ _ => .stuck | .exc x st => .exc x st | .stuck => .stuck
def notE : RE → RE
  | .ok (.bl b) st => .ok (.bl (!b)) st | .ok _ _ => .stuck | .exc x st => .exc x st | .stuck => .stuck
def cl (F : List D → Sto → RE) : RA → RE
  | .ok ds st => callP F ds st | .exc x st => .exc x st | .stuck => .stuck
def clM (F : List D → Sto → RE) : RA → RE
  | .ok ds st => callM F ds st | .exc x st => .exc x st | .stuck => .stuck
def clN (F : List D → Sto → RE) : RA → RE
  | .ok ds st => callN F ds st | .exc x st => .exc x st | .stuck => .stuck
def clP (st0 : Sto) : RE → RE
  | .ok d _ => if nr 12 d = true then .ok d st0 else .stuck | .exc x _ => .exc x st0 | .stuck => .stuck
def thn' (b : S) : RS → RS
  | .nx ρ st => b ρ st | r => r
def st' (i : Nat) (ρ : Rho) : RE → RS
  | .ok d st => .nx (ρ.set i (some d)) st | .exc x st => .exc x ρ st | .stuck => .stuck
def rt' (ρ : Rho) : RE → RS
  | .ok d st => .rt d st | .exc x st => .exc x ρ st | .stuck => .stuck
def dr' (ρ : Rho) : RE → RS
  | .ok _ st => .nx ρ st | .exc x st => .exc x ρ st | .stuck => .stuck
def ifS (a b : S) (ρ : Rho) : RE → RS
  | .ok (.bl true) st => a ρ st | .ok (.bl false) st => b ρ st | .ok _ _ => .stuck | .exc x st => .exc x ρ st | .stuck => .stuck
def pr' (i j : Nat) (ρ : Rho) (x : D) : RE → RS
  | .ok y st => .nx ((ρ.set i (some x)).set j (some y)) st | .exc x st => .exc x ρ st | .stuck => .stuck
def pr (i j : Nat) (b : E) (ρ : Rho) : RE → RS
  | .ok x st => pr' i j ρ x (b ρ st) | .exc x st => .exc x ρ st | .stuck => .stuck
def asg' (ρ : Rho) (b : Bd) : RE → RS
  | .ok d st => (match b d ρ with | some ρ1 => .nx ρ1 st | none => .stuck) | .exc x st => .exc x ρ st | .stuck => .stuck
def fr' (b : Bd) (body : S) (ρ : Rho) : RA → RS
  | .ok items st => sForGo b body items ρ st | .exc x st => .exc x ρ st | .stuck => .stuck
def rg1' : RE → RA
  | .ok (.int n) st => if n ≤ 1000000 ∧ -1000000 ≤ n then .ok (rgD 0 n.toNat) st else .stuck | .ok _ _ => .stuck | .exc x st => .exc x st | .stuck => .stuck
def rg2' (i : Int) : RE → RA
  | .ok (.int j) st => if i ≤ 1000000 ∧ -1000000 ≤ i ∧ j ≤ 1000000 ∧ -1000000 ≤ j then .ok (rgD i (j - i).toNat) st else .stuck | .ok _ _ => .stuck | .exc x st => .exc x st | .stuck => .stuck
def rg2 (b : E) (ρ : Rho) : RE → RA
  | .ok (.int i) st => rg2' i (b ρ st) | .ok _ st => (match b ρ st with | .exc x st => .exc x st | _ => .stuck) | .exc x st => .exc x st | .stuck => .stuck
def sq' : RE → RA
  | .ok (.lst ds) st => .ok ds st | .ok (.tup ds) st => .ok ds st | .ok _ _ => .stuck | .exc x st => .exc x st | .stuck => .stuck
def lc' (fin : List D → Sto → RE) (b : Bd) (t f : E) (ρ0 : Rho) : RA → RE
  | .ok items st => if items.length ≤ 1000000 then lcGo b t f ρ0 fin items st [] else .stuck | .exc x st => .exc x st | .stuck => .stuck
def ch3 (g : D → D → Sto → Option D) (y : D) : RE → RE
  | .ok w st => RE.of (g y w st) st | .exc x st => .exc x st | .stuck => .stuck
def ch2 (g : D → D → Sto → Option D) (y : D) (c : E) (ρ : Rho) : RE → RE
  | .ok (.bl true) st => ch3 g y (c ρ st) | .ok (.bl false) st => .ok (.bl false) st | .ok _ _ => .stuck | .exc x st => .exc x st | .stuck => .stuck
def ch1 (g g' : D → D → Sto → Option D) (x : D) (c : E) (ρ : Rho) : RE → RE
  | .ok y st => ch2 g' y c ρ (RE.of (g x y st) st) | .exc x st => .exc x st | .stuck => .stuck
def ch0 (g g' : D → D → Sto → Option D) (b c : E) (ρ : Rho) : RE → RE
  | .ok x st => ch1 g g' x c ρ (b ρ st) | .exc x st => .exc x st | .stuck => .stuck
section
variable {g g' : D → D → Sto → Option D} {a b c : E} {as : EA} {ρ : Rho} {st : Sto} {i j : Nat} {F : List D → Sto → RE} {sa sb : S}
@[simp] theorem x_V : eV i ρ st = (match ρ[i]? with | some (some d) => .ok d st | _ => .stuck) := rfl
@[simp] theorem x_C {d : D} : eC d ρ st = .ok d st := rfl
@[simp] theorem x_1 {g : D → Sto → Option D} : e1 g a ρ st = un1 g (a ρ st) := by unfold e1; cases a ρ st <;> rfl
@[simp] theorem x_2 : e2 g a b ρ st = bn g b ρ (a ρ st) := by
  unfold e2
  cases a ρ st with
  | ok x st1 => show (b ρ st1).bind _ = bn' g x (b ρ st1); cases b ρ st1 <;> rfl
  | exc _ _ => rfl
  | stuck => rfl
@[simp] theorem x_N {g : List D → Sto → Option (D × Sto)} : eN g as ρ st = nN g (as ρ st) := by unfold eN; cases as ρ st <;> rfl
@[simp] theorem x_nil : aNil ρ st = .ok [] st := rfl
@[simp] theorem x_cons : aCons a as ρ st = ac as ρ (a ρ st) := by
  unfold aCons
  cases a ρ st with
  | ok x st1 => show _ = ac' x (as ρ st1); cases h : as ρ st1 <;> simp [h] <;> rfl
  | exc _ _ => rfl
  | stuck => rfl
@[simp] theorem x_tup : eTup as ρ st = tp (as ρ st) := by unfold eTup; cases as ρ st <;> rfl
@[simp] theorem x_lst : eLst as ρ st = lp (as ρ st) := by unfold eLst; cases as ρ st <;> rfl
@[simp] theorem x_lstM : eLstM as ρ st = lpM (as ρ st) := by unfold eLstM; cases as ρ st <;> rfl
@[simp] theorem x_ifE : eIf c a b ρ st = ifE a b ρ (c ρ st) := by
  unfold eIf; cases c ρ st with
  | ok d st1 => cases d <;> first | rfl | (rename_i k; cases k <;> rfl)
  | exc _ _ => rfl
  | stuck => rfl
@[simp] theorem x_and : eAnd a b ρ st = ifE b (eC (.bl false)) ρ (a ρ st) := by
  unfold eAnd; cases a ρ st with
  | ok d st1 => cases d <;> first | rfl | (rename_i k; cases k <;> rfl)
  | exc _ _ => rfl
  | stuck => rfl
@[simp] theorem x_or : eOr a b ρ st = ifE (eC (.bl true)) b ρ (a ρ st) := by
  unfold eOr; cases a ρ st with
  | ok d st1 => cases d <;> first | rfl | (rename_i k; cases k <;> rfl)
  | exc _ _ => rfl
  | stuck => rfl
@[simp] theorem x_not : eNot a ρ st = notE (a ρ st) := by
  unfold eNot; cases a ρ st with
  | ok d st1 => cases d <;> rfl
  | exc _ _ => rfl
  | stuck => rfl
@[simp] theorem x_call : eCall F as ρ st = cl F (as ρ st) := by unfold eCall; cases as ρ st <;> rfl
@[simp] theorem x_callM : eCallM F as ρ st = clM F (as ρ st) := by unfold eCallM; cases as ρ st <;> rfl
@[simp] theorem x_callN : eCallN F as ρ st = clN F (as ρ st) := by unfold eCallN; cases as ρ st <;> rfl
@[simp] theorem x_callP {ds : List D} : callP F ds st = if ds.all (nr 12) = true then clP st (F ds []) else .stuck := by
  unfold callP clP; split <;> rfl
@[simp] theorem x_chain : eChain g g' a b c ρ st = ch0 g g' b c ρ (a ρ st) := by
  unfold eChain
  cases a ρ st with
  | ok x st1 =>
    show (b ρ st1).bind _ = ch1 g g' x c ρ (b ρ st1)
    cases b ρ st1 with
    | ok y st2 =>
      show (RE.of (g x y st2) st2).bind _ = ch2 g' y c ρ (RE.of (g x y st2) st2)
      cases g x y st2 with
      | none => rfl
      | some z =>
        cases z with
        | bl k => cases k with
          | true => show (c ρ st2).bind _ = ch3 g' y (c ρ st2); cases c ρ st2 <;> rfl
          | false => rfl
        | _ => rfl
    | exc _ _ => rfl
    | stuck => rfl
  | exc _ _ => rfl
  | stuck => rfl
@[simp] theorem x_seq : sSeq sa sb ρ st = thn' sb (sa ρ st) := by unfold sSeq thn'; cases sa ρ st <;> rfl
@[simp] theorem x_nx : sNx ρ st = .nx ρ st := rfl
@[simp] theorem x_no : sNo ρ st = .stuck := rfl
@[simp] theorem x_set : sSet i a ρ st = st' i ρ (a ρ st) := by unfold sSet; cases a ρ st <;> rfl
@[simp] theorem x_ret : sRet a ρ st = rt' ρ (a ρ st) := by unfold sRet; cases a ρ st <;> rfl
@[simp] theorem x_retN : sRetN ρ st = .rt .non st := rfl
@[simp] theorem x_drop : sDrop a ρ st = dr' ρ (a ρ st) := by unfold sDrop; cases a ρ st <;> rfl
@[simp] theorem x_raise {x : Str} : sRaise x ρ st = .exc ⟨x⟩ ρ st := rfl
@[simp] theorem x_ifS : sIf c sa sb ρ st = ifS sa sb ρ (c ρ st) := by
  unfold sIf; cases c ρ st with
  | ok d st1 => cases d <;> first | rfl | (rename_i k; cases k <;> rfl)
  | exc _ _ => rfl
  | stuck => rfl
@[simp] theorem x_par : sPar i j a b ρ st = pr i j b ρ (a ρ st) := by
  unfold sPar
  cases a ρ st with
  | ok x st1 => show (b ρ st1).toS ρ _ = pr' i j ρ x (b ρ st1); cases b ρ st1 <;> rfl
  | exc _ _ => rfl
  | stuck => rfl
@[simp] theorem x_asg {bd : Bd} : sAsg a bd ρ st = asg' ρ bd (a ρ st) := by unfold sAsg; cases a ρ st <;> rfl
@[simp] theorem x_for {bd : Bd} {src : EA} : sFor src bd sa ρ st = fr' bd sa ρ (src ρ st) := by unfold sFor; cases src ρ st <;> rfl
@[simp] theorem x_rg1 : iRg1 a ρ st = rg1' (a ρ st) := by
  unfold iRg1; cases a ρ st with
  | ok d st1 => cases d <;> rfl
  | exc _ _ => rfl
  | stuck => rfl
@[simp] theorem x_rg2 : iRg2 a b ρ st = rg2 b ρ (a ρ st) := by
  unfold iRg2; cases a ρ st with
  | ok d st1 =>
    show (b ρ st1).toA _ = rg2 b ρ (.ok d st1)
    cases d with
    | int i => show _ = rg2' i (b ρ st1); cases b ρ st1 with
      | ok y st2 => cases y <;> rfl
      | exc _ _ => rfl
      | stuck => rfl
    | _ => (simp only [rg2]; cases b ρ st1 with
      | ok y st2 => cases y <;> rfl
      | exc _ _ => rfl
      | stuck => rfl)
  | exc _ _ => rfl
  | stuck => rfl
@[simp] theorem x_iseq : iSeq a ρ st = sq' (a ρ st) := by
  unfold iSeq; cases a ρ st with
  | ok d st1 => cases d <;> rfl
  | exc _ _ => rfl
  | stuck => rfl
@[simp] theorem x_lc {fin : List D → Sto → RE} {src : EA} {own : List Nat} {bd : Bd} : eLcB fin src own bd a b ρ st = lc' fin bd a b (wipeD ρ own) (src ρ st) := by unfold eLcB; cases src ρ st <;> rfl
@[simp] theorem x_bname {d : D} : bName i d ρ = some (ρ.set i (some d)) := rfl
@[simp] theorem x_fnil {bd : Bd} : sForGo bd sa [] ρ st = .nx ρ st := rfl
end
/-! .. and on -/
section
variable {g g' : D → D → Sto → Option D} {g1 : D → Sto → Option D} {gn : List D → Sto → Option (D × Sto)} {a b c : E} {as : EA} {ρ : Rho} {st st0 : Sto} {i j : Nat} {F : List D → Sto → RE} {sa sb : S} {x y d : D} {ds : List D} {ex : Exn} {bd : Bd} {fin : List D → Sto → RE} {k n : Int}
@[simp] theorem y_un : un1 g1 (.ok x st) = RE.of (g1 x st) st := rfl
@[simp] theorem y_bn : bn g b ρ (.ok x st) = bn' g x (b ρ st) := rfl
@[simp] theorem y_bn' : bn' g x (.ok y st) = RE.of (g x y st) st := rfl
@[simp] theorem y_of : RE.of (some d) st = .ok d st := rfl
@[simp] theorem y_of2 : RE.of2 (some (d, st)) = .ok d st := rfl
@[simp] theorem y_nN : nN gn (.ok ds st) = RE.of2 (gn ds st) := rfl
@[simp] theorem y_ac : ac as ρ (.ok d st) = ac' d (as ρ st) := rfl
@[simp] theorem y_ac' : ac' d (.ok ds st) = .ok (d :: ds) st := rfl
@[simp] theorem y_tp : tp (.ok ds st) = if ds.length ≤ 1000000 then .ok (.tup ds) st else .stuck := rfl
@[simp] theorem y_lp : lp (.ok ds st) = if ds.length ≤ 1000000 then .ok (.lst ds) st else .stuck := rfl
@[simp] theorem y_lpM : lpM (.ok ds st) = if ds.length ≤ 1000000 then .ok (.ref st.length) (st ++ [.lst ds]) else .stuck := rfl
@[simp] theorem y_ift : ifE a b ρ (.ok (.bl true) st) = a ρ st := rfl
@[simp] theorem y_iff : ifE a b ρ (.ok (.bl false) st) = b ρ st := rfl
@[simp] theorem y_not {k : Bool} : notE (.ok (.bl k) st) = .ok (.bl (!k)) st := rfl
@[simp] theorem y_cl : cl F (.ok ds st) = callP F ds st := rfl
@[simp] theorem y_clM : clM F (.ok ds st) = callM F ds st := rfl
@[simp] theorem y_clN : clN F (.ok ds st) = callN F ds st := rfl
@[simp] theorem y_clP : clP st0 (.ok d st) = if nr 12 d = true then .ok d st0 else .stuck := rfl
@[simp] theorem y_clPx : clP st0 (.exc ex st) = .exc ex st0 := rfl
@[simp] theorem y_thn : thn' sb (.nx ρ st) = sb ρ st := rfl
@[simp] theorem y_thr : thn' sb (.rt d st) = .rt d st := rfl
@[simp] theorem y_thx : thn' sb (.exc ex ρ st) = .exc ex ρ st := rfl
@[simp] theorem y_st : st' i ρ (.ok d st) = .nx (ρ.set i (some d)) st := rfl
@[simp] theorem y_rt : rt' ρ (.ok d st) = .rt d st := rfl
@[simp] theorem y_rtx : rt' ρ (.exc ex st) = .exc ex ρ st := rfl
@[simp] theorem y_dr : dr' ρ (.ok d st) = .nx ρ st := rfl
@[simp] theorem y_drx : dr' ρ (.exc ex st) = .exc ex ρ st := rfl
@[simp] theorem y_ifst : ifS sa sb ρ (.ok (.bl true) st) = sa ρ st := rfl
@[simp] theorem y_ifsf : ifS sa sb ρ (.ok (.bl false) st) = sb ρ st := rfl
@[simp] theorem y_pr : pr i j b ρ (.ok x st) = pr' i j ρ x (b ρ st) := rfl
@[simp] theorem y_pr' : pr' i j ρ x (.ok y st) = .nx ((ρ.set i (some x)).set j (some y)) st := rfl
@[simp] theorem y_asg : asg' ρ bd (.ok d st) = (match bd d ρ with | some ρ1 => .nx ρ1 st | none => .stuck) := rfl
@[simp] theorem y_fr : fr' bd sa ρ (.ok ds st) = sForGo bd sa ds ρ st := rfl
@[simp] theorem y_rg1 : rg1' (.ok (.int n) st) = if rgOk n = true then .ok (rgD 0 n.toNat) st else .stuck := by
  show (if n ≤ 1000000 ∧ -1000000 ≤ n then RA.ok (rgD 0 n.toNat) st else RA.stuck) = _
  unfold rgOk
  by_cases h : n ≤ 1000000 ∧ -1000000 ≤ n
  · rw [if_pos h, if_pos (decide_eq_true h)]
  · rw [if_neg h, if_neg (fun z => h (of_decide_eq_true z))]
@[simp] theorem y_rg2 : rg2 b ρ (.ok (.int k) st) = rg2' k (b ρ st) := rfl
@[simp] theorem y_rg2' : rg2' k (.ok (.int n) st) = if rgOk k = true ∧ rgOk n = true then .ok (rgD k (n - k).toNat) st else .stuck := by
  have e : (k ≤ 1000000 ∧ -1000000 ≤ k ∧ n ≤ 1000000 ∧ -1000000 ≤ n) ↔ (rgOk k = true ∧ rgOk n = true) := by
    unfold rgOk
    rw [decide_eq_true_iff, decide_eq_true_iff]
    exact ⟨fun ⟨a, b, c, d⟩ => ⟨⟨a, b⟩, c, d⟩, fun ⟨⟨a, b⟩, c, d⟩ => ⟨a, b, c, d⟩⟩
  show (if k ≤ 1000000 ∧ -1000000 ≤ k ∧ n ≤ 1000000 ∧ -1000000 ≤ n then RA.ok (rgD k (n - k).toNat) st else RA.stuck) = _
  by_cases h : rgOk k = true ∧ rgOk n = true
  · rw [if_pos h, if_pos (e.mpr h)]
  · rw [if_neg h, if_neg (fun z => h (e.mp z))]
@[simp] theorem y_sql : sq' (.ok (.lst ds) st) = .ok ds st := rfl
@[simp] theorem y_sqt : sq' (.ok (.tup ds) st) = .ok ds st := rfl
@[simp] theorem y_lc : lc' fin bd a b ρ (.ok ds st) = if lenOk ds.length = true then lcGo bd a b ρ fin ds st [] else .stuck := by
  show (if ds.length ≤ 1000000 then lcGo bd a b ρ fin ds st [] else .stuck) = _
  unfold lenOk
  by_cases h : ds.length ≤ 1000000
  · rw [if_pos h, if_pos (decide_eq_true h)]
  · rw [if_neg h, if_neg (by simpa using h)]
@[simp] theorem y_ch0 : ch0 g g' b c ρ (.ok x st) = ch1 g g' x c ρ (b ρ st) := rfl
@[simp] theorem y_ch1 : ch1 g g' x c ρ (.ok y st) = ch2 g' y c ρ (RE.of (g x y st) st) := rfl
@[simp] theorem y_ch2t : ch2 g y c ρ (.ok (.bl true) st) = ch3 g y (c ρ st) := rfl
@[simp] theorem y_ch2f : ch2 g y c ρ (.ok (.bl false) st) = .ok (.bl false) st := rfl
@[simp] theorem y_ch3 : ch3 g y (.ok x st) = RE.of (g y x st) st := rfl
end
/-! operators on ints -/
section
variable {i j : Int} {st : Sto}
@[simp] theorem z_add : addD (.int i) (.int j) st = some (.int (i + j)) := rfl
@[simp] theorem z_sub : subD (.int i) (.int j) st = some (.int (i - j)) := rfl
@[simp] theorem z_mul : mulD (.int i) (.int j) st = if i.natAbs.log2 + j.natAbs.log2 < 100000000 then some (.int (i * j)) else none := rfl
@[simp] theorem z_fdiv : fdivD (.int i) (.int j) st = if j ≠ 0 ∧ j.natAbs.log2 < 9000 then some (.int (i.fdiv j)) else none := rfl
@[simp] theorem z_mod : modD (.int i) (.int j) st = if j ≠ 0 then some (.int (i.fmod j)) else none := rfl
@[simp] theorem z_shl : shlD (.int i) (.int j) st = if 0 ≤ j ∧ j ≤ 1000000 ∧ i.natAbs < 18446744073709551616 then some (.int (i * 2 ^ j.toNat)) else none := rfl
@[simp] theorem z_neg : negD (.int i) st = some (.int (-i)) := rfl
@[simp] theorem z_lt : ltD (.int i) (.int j) st = some (.bl (decide (i < j))) := rfl
@[simp] theorem z_le : leD (.int i) (.int j) st = some (.bl (decide (i ≤ j))) := rfl
@[simp] theorem z_gt : gtD (.int i) (.int j) st = some (.bl (decide (j < i))) := rfl
@[simp] theorem z_ge : geD (.int i) (.int j) st = some (.bl (decide (j ≤ i))) := rfl
@[simp] theorem z_eq : eqD (.int i) (.int j) st = some (.bl (decide (i = j))) := by
  unfold eqD
  simp [shp, eqvN, eqLeaf, Bool.beq_eq_decide_eq]
@[simp] theorem z_ne : neD (.int i) (.int j) st = some (.bl (!decide (i = j))) := by
  unfold neD
  simp [shp, eqvN, eqLeaf, Bool.beq_eq_decide_eq]
@[simp] theorem z_eqb {p q : Bool} : eqD (.bl p) (.bl q) st = some (.bl (p == q)) := by
  unfold eqD
  simp [shp, eqvN, eqLeaf]
@[simp] theorem z_neb {p q : Bool} : neD (.bl p) (.bl q) st = some (.bl (!(p == q))) := by
  unfold neD
  simp [shp, eqvN, eqLeaf]
@[simp] theorem z_nri {n : Nat} : nr n (.int i) = true := by cases n <;> rfl
@[simp] theorem z_nrb {n : Nat} {b : Bool} : nr n (.bl b) = true := by cases n <;> rfl
@[simp] theorem z_nrn {n : Nat} : nr n .non = true := by cases n <;> rfl
@[simp] theorem z_nrt {n : Nat} {ds : List D} : nr (n + 1) (.tup ds) = ds.all (nr n) := rfl
@[simp] theorem z_nrl {n : Nat} {ds : List D} : nr (n + 1) (.lst ds) = ds.all (nr n) := rfl
end
theorem get_set_self {α : Type} {l : List α} {i : Nat} {x y : α} (h : l[i]? = some y) : (l.set i x)[i]? = some x := by
  rw [List.getElem?_set_self]
  exact (List.getElem?_eq_some_iff.mp h).1
theorem get_set_ne {α : Type} {l : List α} {i j : Nat} {x : α} (h : i ≠ j) : (l.set i x)[j]? = l[j]? := List.getElem?_set_ne h
/-- Euclid's loop -/
theorem while_gcd {c : E} {body : S} {i j : Nat} (hij : i ≠ j) (st : Sto) {MA MB : Nat} (hM : MB ≤ MA) (hc : ∀ (ρ : Rho) (y : Nat), ρ[j]? = some (some (.int y)) → c ρ st = .ok (.bl (decide (0 < y))) st)
    (hb : ∀ (ρ : Rho) (x y : Nat), ρ[i]? = some (some (.int x)) → ρ[j]? = some (some (.int y)) → 0 < y → x ≤ MA → y ≤ MB → body ρ st = .nx ((ρ.set i (some (.int y))).set j (some (.int (x % y : Nat)))) st) :
    ∀ (y x n : Nat) (ρ : Rho), y < n → x ≤ MA → y ≤ MB → ρ[i]? = some (some (.int x)) → ρ[j]? = some (some (.int y)) → sWhile c body n ρ st = .nx ((ρ.set i (some (.int (Nat.gcd x y : Nat)))).set j (some (.int 0))) st := fun y => by
  induction y using Nat.strongRecOn with
  | ind y ih =>
    intro x n ρ hn hxM hyM hi hj
    cases n with
    | zero => omega
    | succ n =>
      unfold sWhile
      rw [hc ρ y hj]
      by_cases hy : 0 < y
      · simp only [RE.toS, decide_eq_true hy]
        rw [hb ρ x y hi hj hy hxM hyM]
        dsimp only
        have hlt : x % y < y := Nat.mod_lt _ hy
        have h1 : ((ρ.set i (some (D.int y))).set j (some (.int (x % y : Nat))))[i]? = some (some (.int y)) := by
          rw [get_set_ne (Ne.symm hij), get_set_self hi]
        have h2 : ((ρ.set i (some (D.int y))).set j (some (.int (x % y : Nat))))[j]? = some (some (.int (x % y : Nat))) := by
          rw [get_set_self (y := some (.int y)) (by rw [get_set_ne hij]; exact hj)]
        rw [ih (x % y) hlt y n _ (by omega) (by omega) (by omega) h1 h2]
        congr 1
        rw [List.set_comm _ _ (Ne.symm hij), List.set_set, List.set_set]
        rw [show Nat.gcd y (x % y) = Nat.gcd x y by rw [Nat.gcd_comm x y, Nat.gcd_rec y x, Nat.gcd_comm]]
      · have e : y = 0 := by omega
        subst e
        simp only [RE.toS, decide_eq_false hy]
        congr 1
        rw [Nat.gcd_zero_right, set_self hi]
        exact (set_self hj).symm
@[simp] theorem fmod_nat (x y : Nat) : ((x : Int).fmod (y : Int)) = ((x % y : Nat) : Int) := by
  rw [Int.fmod_eq_emod_of_nonneg _ (Int.natCast_nonneg y)]
  rfl
@[simp] theorem fdiv_nat (x y : Nat) : ((x : Int).fdiv (y : Int)) = ((x / y : Nat) : Int) := by
  rw [Int.fdiv_eq_ediv_of_nonneg _ (Int.natCast_nonneg y)]
  rfl
theorem pow_lt' {a b : Nat} (n : Nat) (h : a < 2 ^ b) (hb : b ≤ n) : a < 2 ^ n := Nat.lt_of_lt_of_le h (Nat.pow_le_pow_right (by decide) hb)
theorem log_lt {n k : Nat} (h : n < 2 ^ k) (hk : 0 < k) : n.log2 < k := by
  by_cases h0 : n = 0
  · subst h0; simpa using hk
  · exact (Nat.log2_lt h0).mpr h
theorem absn (x : Int) : (if x < 0 then -x else x) = (x.natAbs : Int) := by split <;> omega
@[simp] theorem z_abs {i : Int} {st : Sto} : g0 absD [.int i] st = some (.int (i.natAbs : Int), st) := by
  simp only [g0, absD]
  rw [absn]
@[simp] theorem x_mkF {np nl : Nat} {g : S} {ds : List D} {st : Sto} : mkF np nl g ds st = if ds.length = np then (match g (ds.map some ++ List.replicate (nl - np) none) st with
  | .rt d st' => .ok d st'
  | .nx _ st' => .ok .non st'
  | .exc x _ st' => .exc x st'
  | _ => .stuck) else .stuck := rfl
end L4
namespace L4
open PySem L2
theorem fn_rt {np nl : Nat} {g : S} {ds : List D} {st st' : Sto} {d : D} (hl : ds.length = np) (h : g (ds.map some ++ List.replicate (nl - np) none) st = .rt d st') : mkF np nl g ds st = .ok d st' := by
  rw [x_mkF, if_pos hl, h]
def pt3 (ρ : Rho) (d x : D) : RE → RS
  | .ok y st => (match putD x y d st with | some st4 => .nx ρ st4 | none => .stuck) | .exc x st => .exc x ρ st | .stuck => .stuck
def pt2 (i : E) (ρ : Rho) (d : D) : RE → RS
  | .ok x st => pt3 ρ d x (i ρ st) | .exc x st => .exc x ρ st | .stuck => .stuck
def pt1 (o i : E) (ρ : Rho) : RE → RS
  | .ok d st => pt2 i ρ d (o ρ st) | .exc x st => .exc x ρ st | .stuck => .stuck
section
variable {e o i : E} {ρ : Rho} {st st4 : Sto} {d x y : D} {ds : List D} {j : Int}
@[simp] theorem x_put : sPut e o i ρ st = pt1 o i ρ (e ρ st) := by
  unfold sPut
  cases e ρ st with
  | ok d st1 =>
    show (o ρ st1).toS ρ _ = pt2 i ρ d (o ρ st1)
    cases o ρ st1 with
    | ok x st2 => show (i ρ st2).toS ρ _ = pt3 ρ d x (i ρ st2); cases i ρ st2 <;> rfl
    | exc _ _ => rfl
    | stuck => rfl
  | exc _ _ => rfl
  | stuck => rfl
@[simp] theorem y_pt1 : pt1 o i ρ (.ok d st) = pt2 i ρ d (o ρ st) := rfl
@[simp] theorem y_pt2 : pt2 i ρ d (.ok x st) = pt3 ρ d x (i ρ st) := rfl
theorem y_pt3 (h : putD x y d st = some st4) : pt3 ρ d x (.ok y st) = .nx ρ st4 := by unfold pt3; dsimp only; rw [h]
@[simp] theorem z_ixt : ixD (.tup ds) (.int j) st = atI ds j := rfl
@[simp] theorem z_ixl : ixD (.lst ds) (.int j) st = atI ds j := rfl
end
theorem z_ixr {n : Nat} {st : Sto} {ds : List D} {j : Int} (h : st[n]? = some (.lst ds)) : ixD (.ref n) (.int j) st = atI ds j := by
  simp only [ixD, listOf, h]
theorem ixN_nat {n i : Nat} (h : i < n) : ixN n (i : Int) = some i := by
  unfold ixN
  rw [if_pos (Int.natCast_nonneg i), if_pos (by omega)]
  rfl
theorem at_nat {α : Type} {ds : List α} {i : Nat} (h : i < ds.length) : atI ds (i : Int) = ds[i]? := by
  unfold atI
  rw [ixN_nat h]
  rfl
@[simp] theorem at_0 {α : Type} {a : α} {ds : List α} : atI (a :: ds) 0 = some a := at_nat (i := 0) (by simp)
@[simp] theorem at_1 {α : Type} {a b : α} {ds : List α} : atI (a :: b :: ds) 1 = some b := at_nat (i := 1) (by simp)
@[simp] theorem at_2 {α : Type} {a b c : α} {ds : List α} : atI (a :: b :: c :: ds) 2 = some c := at_nat (i := 2) (by simp)
@[simp] theorem at_3 {α : Type} {a b c d : α} {ds : List α} : atI (a :: b :: c :: d :: ds) 3 = some d := at_nat (i := 3) (by simp)
/-! types -/
theorem z_isi {x : D} {u t : String} {b : Bool} {st : Sto} (h1 : tyOf x st = some t) (h2 : isOne t u = some b) : g0 isiD [x, .ty u] st = some (.bl b, st) := by
  simp only [g0, isiD, h1, h2]
section
variable {i : Int} {st : Sto} {k : Bool} {ds : List D} {z : Str}
@[simp] theorem z_isi_ii : g0 isiD [.int i, .ty "int"] st = some (.bl true, st) := z_isi rfl (by decide +kernel)
@[simp] theorem z_isi_ib : g0 isiD [.int i, .ty "bool"] st = some (.bl false, st) := z_isi rfl (by decide +kernel)
@[simp] theorem z_isi_is : g0 isiD [.int i, .ty "str"] st = some (.bl false, st) := z_isi rfl (by decide +kernel)
@[simp] theorem z_isi_it : g0 isiD [.int i, .ty "tuple"] st = some (.bl false, st) := z_isi rfl (by decide +kernel)
@[simp] theorem z_isi_il : g0 isiD [.int i, .ty "list"] st = some (.bl false, st) := z_isi rfl (by decide +kernel)
@[simp] theorem z_isi_tt : g0 isiD [.tup ds, .ty "tuple"] st = some (.bl true, st) := z_isi rfl (by decide +kernel)
@[simp] theorem z_isi_tl : g0 isiD [.tup ds, .ty "list"] st = some (.bl false, st) := z_isi rfl (by decide +kernel)
@[simp] theorem z_isi_ti : g0 isiD [.tup ds, .ty "int"] st = some (.bl false, st) := z_isi rfl (by decide +kernel)
@[simp] theorem z_isi_tb : g0 isiD [.tup ds, .ty "bool"] st = some (.bl false, st) := z_isi rfl (by decide +kernel)
@[simp] theorem z_isi_lt : g0 isiD [.lst ds, .ty "tuple"] st = some (.bl false, st) := z_isi rfl (by decide +kernel)
@[simp] theorem z_isi_ll : g0 isiD [.lst ds, .ty "list"] st = some (.bl true, st) := z_isi rfl (by decide +kernel)
@[simp] theorem z_isi_bb : g0 isiD [.bl k, .ty "bool"] st = some (.bl true, st) := z_isi rfl (by decide +kernel)
@[simp] theorem z_isi_bi : g0 isiD [.bl k, .ty "int"] st = some (.bl true, st) := z_isi rfl (by decide +kernel)
@[simp] theorem z_isi_bt : g0 isiD [.bl k, .ty "tuple"] st = some (.bl false, st) := z_isi rfl (by decide +kernel)
@[simp] theorem z_isi_bls : g0 isiD [.bl k, .ty "list"] st = some (.bl false, st) := z_isi rfl (by decide +kernel)
@[simp] theorem z_lent : g0 lenD [.tup ds] st = some (.int (ds.length : Int), st) := rfl
@[simp] theorem z_lenl : g0 lenD [.lst ds] st = some (.int (ds.length : Int), st) := rfl
@[simp] theorem z_inti : g0 intD [.int i] st = some (.int i, st) := rfl
@[simp] theorem z_tupt : g0 tupleD [.tup ds] st = some (.tup ds, st) := rfl
@[simp] theorem z_tupl : g0 tupleD [.lst ds] st = some (.tup ds, st) := rfl
@[simp] theorem z_lstt : g0 listD [.tup ds] st = some (.lst ds, st) := rfl
@[simp] theorem z_lstl : g0 listD [.lst ds] st = some (.lst ds, st) := rfl
@[simp] theorem z_max {j : Int} : g0 max2D [.int i, .int j] st = some (.int (max i j), st) := by
  have : (if j > i then j else i) = max i j := by split <;> omega
  simp only [g0, max2D, this]
@[simp] theorem z_min {j : Int} : g0 min2D [.int i, .int j] st = some (.int (min i j), st) := by
  have : (if j < i then j else i) = min i j := by split <;> omega
  simp only [g0, min2D, this]
@[simp] theorem z_ison : isD (.int i) .non st = some (.bl false) := rfl
@[simp] theorem z_revt : revD (.tup ds) st = some (.tup ds.reverse) := rfl
@[simp] theorem z_revl : revD (.lst ds) st = some (.lst ds.reverse) := rfl
end
theorem tyOf_ref {n : Nat} {st : Sto} {ds : List D} (h : st[n]? = some (.lst ds)) : tyOf (.ref n) st = some "list" := by simp only [tyOf, h]
/-! drawing from the script -/
def drawA : S := (sIf (eAnd (e2 eqD (e2 ixD (eV 0) (eC (.int 2))) (eC (.int 0))) (e2 ltD (e2 ixD (eV 0) (eC (.int 1))) (eN (g0 lenD) (aCons (e2 ixD (eV 0) (eC (.int 0))) aNil)))) (sSeq (sSet 2 (e2 ixD (e2 ixD (eV 0) (eC (.int 0))) (e2 ixD (eV 0) (eC (.int 1)))))
    (sSeq (sPut (e2 addD (e2 ixD (eV 0) (eC (.int 1))) (eC (.int 1))) (eV 0) (eC (.int 1)))
    (sSeq (sIf (e2 geD (eV 2) (e2 powD (eC (.int 10)) (eC (.int 18)))) (sPut (eV 2) (eV 0) (eC (.int 2))) sNx)
    (sPut (e2 modD (eN (g0 intD) (aCons (e2 addD (e2 addD (e2 mulD (e2 ixD (eV 0) (eC (.int 3))) (eC (.int 48271))) (eV 2)) (eC (.int 13))) aNil)) (eC (.int 2147483647))) (eV 0) (eC (.int 3)))))) sNx)
def drawB : S := (sSeq (sIf (e2 gtD (e2 ixD (eV 0) (eC (.int 2))) (eC (.int 0))) (sSeq (sSet 3 (e2 modD (eN (g0 intD) (aCons (e2 ixD (eV 0) (eC (.int 2))) aNil)) (eV 1)))
    (sSeq (sPut (e2 fdivD (e2 ixD (eV 0) (eC (.int 2))) (eV 1)) (eV 0) (eC (.int 2)))
    (sRet (eV 3)))) sNx)
    (sSeq (sPut (e2 modD (eN (g0 intD) (aCons (e2 addD (e2 mulD (e2 ixD (eV 0) (eC (.int 3))) (eC (.int 69621))) (eC (.int 7))) aNil)) (eC (.int 2147483629))) (eV 0) (eC (.int 3)))
    (sRet (e2 modD (eN (g0 intD) (aCons (e2 fdivD (e2 ixD (eV 0) (eC (.int 3))) (eC (.int 11))) aNil)) (eV 1)))))
def drawF : List D → Sto → RE := mkF 2 4 (sSeq drawA drawB)
def stD (ns : List Int) (p : Nat) (c l : Int) : MO := .lst [.lst (ns.map .int), .int p, .int c, .int l]
def lB (l : Int) : Prop := 0 ≤ l ∧ l < 4294967296
theorem lB_log {l : Int} (h : lB l) {k : Int} (hk : k.natAbs.log2 < 40) : l.natAbs.log2 + k.natAbs.log2 < 100000000 := by
  have : l.natAbs < 2 ^ 32 := by obtain ⟨h1, h2⟩ := h; omega
  have := log_lt this (by decide)
  omega
theorem lB_mod {x k : Int} (h0 : 0 < k) (h : k < 4294967296) : lB (x.fmod k) := ⟨Int.fmod_nonneg_of_pos _ h0, Int.lt_trans (Int.fmod_lt_of_pos _ h0) h⟩
theorem put_3 {a b c e d : D} : putD (.ref 0) (.int 3) d [.lst [a, b, c, e]] = some [.lst [a, b, c, d]] := rfl
theorem put_2 {a b c e d : D} : putD (.ref 0) (.int 2) d [.lst [a, b, c, e]] = some [.lst [a, b, d, e]] := rfl
theorem put_1 {a b c e d : D} : putD (.ref 0) (.int 1) d [.lst [a, b, c, e]] = some [.lst [a, d, c, e]] := rfl
theorem ix_00 {ds : List D} {j : Int} : ixD (.ref 0) (.int j) [.lst ds] = atI ds j := rfl
theorem z_pow10 {st : Sto} : powD (.int 10) (.int 18) st = some (.int 1000000000000000000) := by rfl
theorem drawA_eq (ns : List Int) (p : Nat) (c l n : Int) (hl : lB l) : ∃ x p' c' l', drawA [some (.ref 0), some (.int n), none, none] [stD ns p c l] = .nx [some (.ref 0), some (.int n), x, none] [stD ns p' c' l'] ∧ lB l' := by
  by_cases h : c = 0 ∧ p < ns.length
  · obtain ⟨rfl, hp⟩ := h
    have hg : (ns.map D.int)[p]? = some (.int ns[p]) := by rw [List.getElem?_map, List.getElem?_eq_getElem hp]; rfl
    have ha : atI (ns.map D.int) (p : Int) = some (.int ns[p]) := by rw [at_nat (by simpa using hp), hg]
    have hm := lB_log hl (k := 48271) (by decide)
    have hd : decide ((p : Int) < (ns.length : Int)) = true := decide_eq_true (by omega)
    by_cases hb : 1000000000000000000 ≤ ns[p]
    · refine ⟨some (.int ns[p]), p + 1, ns[p], Int.fmod (l * 48271 + ns[p] + 13) 2147483647, ?_, lB_mod (by decide) (by decide)⟩
      unfold drawA stD
      simp -implicitDefEqProofs only [x_ifS, x_and, x_2, x_V, x_C, x_N, x_cons, x_nil, x_seq, x_set, x_put, x_nx, List.getElem?_cons_zero, List.getElem?_cons_succ, y_bn, y_bn', ix_00, z_ixl, at_0, at_1, at_2, at_3, y_of, z_eq, decide_true, y_ift, y_ac, y_ac', y_nN, z_lenl, List.length_map, y_of2, z_lt, hd, y_ifst, ha, y_st, List.set_cons_succ, List.set_cons_zero, y_thn, z_add, y_pt1, y_pt2, y_pt3 put_1, y_pt3 put_2, y_pt3 put_3, z_pow10, z_ge, decide_eq_true hb, z_mul, if_pos hm, z_inti, z_mod]
      rfl
    · refine ⟨some (.int ns[p]), p + 1, 0, Int.fmod (l * 48271 + ns[p] + 13) 2147483647, ?_, lB_mod (by decide) (by decide)⟩
      unfold drawA stD
      simp -implicitDefEqProofs only [x_ifS, x_and, x_2, x_V, x_C, x_N, x_cons, x_nil, x_seq, x_set, x_put, x_nx, List.getElem?_cons_zero, List.getElem?_cons_succ, y_bn, y_bn', ix_00, z_ixl, at_0, at_1, at_2, at_3, y_of, z_eq, decide_true, y_ift, y_ac, y_ac', y_nN, z_lenl, List.length_map, y_of2, z_lt, hd, y_ifst, y_ifsf, ha, y_st, List.set_cons_succ, List.set_cons_zero, y_thn, z_add, y_pt1, y_pt2, y_pt3 put_1, y_pt3 put_2, y_pt3 put_3, z_pow10, z_ge, decide_eq_false hb, z_mul, if_pos hm, z_inti, z_mod]
      rfl
  · refine ⟨none, p, c, l, ?_, hl⟩
    unfold drawA stD
    by_cases hc : c = 0
    · have hd : decide ((p : Int) < (ns.length : Int)) = false := decide_eq_false (by omega)
      subst hc
      simp -implicitDefEqProofs only [x_ifS, x_and, x_2, x_V, x_C, x_N, x_cons, x_nil, x_seq, x_set, x_put, x_nx, List.getElem?_cons_zero, List.getElem?_cons_succ, y_bn, y_bn', ix_00, z_ixl, at_0, at_1, at_2, at_3, y_of, z_eq, decide_true, y_ift, y_ac, y_ac', y_nN, z_lenl, List.length_map, y_of2, z_lt, hd, y_ifst, y_ifsf]
    · simp -implicitDefEqProofs only [x_ifS, x_and, x_2, x_V, x_C, x_N, x_cons, x_nil, x_seq, x_set, x_put, x_nx, List.getElem?_cons_zero, List.getElem?_cons_succ, y_bn, y_bn', ix_00, z_ixl, at_0, at_1, at_2, at_3, y_of, z_eq, decide_eq_false hc, y_ift, y_iff, y_ifsf]
theorem drawB_eq (ns : List Int) (p : Nat) (c l n : Int) (x : Option D) (hl : lB l) (h0 : 0 < n) (hn : n < 4294967296) : ∃ v p' c' l', drawB [some (.ref 0), some (.int n), x, none] [stD ns p c l] = .rt (.int (v : Nat)) [stD ns p' c' l'] ∧ (v : Int) < n ∧ lB l' := by
  have nl : n.natAbs.log2 < 9000 := log_lt (pow_lt' 9000 (b := 32) (by omega) (by decide)) (by decide)
  have nd : n ≠ 0 := by omega
  by_cases h : 0 < c
  · have h1 : 0 ≤ c.fmod n := Int.fmod_nonneg_of_pos _ h0
    have h2 : c.fmod n < n := Int.fmod_lt_of_pos _ h0
    have h3 : ((c.fmod n).toNat : Int) = c.fmod n := Int.toNat_of_nonneg h1
    refine ⟨(c.fmod n).toNat, p, c.fdiv n, l, ?_, by omega, hl⟩
    rw [h3]
    unfold drawB stD
    simp -implicitDefEqProofs only [x_ifS, x_and, x_2, x_V, x_C, x_N, x_cons, x_nil, x_seq, x_set, x_put, x_nx, x_ret, List.getElem?_cons_zero, List.getElem?_cons_succ, y_bn, y_bn', ix_00, z_ixl, at_0, at_1, at_2, at_3, y_of, z_gt, decide_eq_true h, y_ifst, y_ac, y_ac', y_nN, y_of2, z_inti, z_mod, if_pos nd, y_st, List.set_cons_succ, List.set_cons_zero, y_thn, y_thr, z_fdiv, if_pos (And.intro nd nl), y_pt1, y_pt2, y_pt3 put_2, y_rt]
  · have hm := lB_log hl (k := 69621) (by decide)
    refine ⟨(Int.fmod ((Int.fmod (l * 69621 + 7) 2147483629).fdiv 11) n).toNat, p, c, Int.fmod (l * 69621 + 7) 2147483629, ?_, ?_, lB_mod (by decide) (by decide)⟩
    · rw [Int.toNat_of_nonneg (Int.fmod_nonneg_of_pos _ h0)]
      unfold drawB stD
      have d11 : ((11 : Int) ≠ 0 ∧ (11 : Int).natAbs.log2 < 9000) := by decide
      have d21 : ((2147483629 : Int) ≠ 0) := by decide
      simp -implicitDefEqProofs only [x_ifS, x_and, x_2, x_V, x_C, x_N, x_cons, x_nil, x_seq, x_set, x_put, x_nx, x_ret, List.getElem?_cons_zero, List.getElem?_cons_succ, y_bn, y_bn', ix_00, z_ixl, at_0, at_1, at_2, at_3, y_of, z_gt, decide_eq_false h, y_ifsf, y_ac, y_ac', y_nN, y_of2, z_inti, z_add, z_mul, if_pos hm, z_mod, if_pos nd, if_pos d21, y_thn, y_thr, z_fdiv, if_pos d11, y_pt1, y_pt2, y_pt3 put_3, y_rt]
    · rw [Int.toNat_of_nonneg (Int.fmod_nonneg_of_pos _ h0)]
      exact Int.fmod_lt_of_pos _ h0
/-- a state of drawing -/
def GD (M : MO) : Prop := ∃ ns p c l, M = stD ns p c l ∧ lB l
theorem GD.nr {M : MO} (h : GD M) : M.nr = true := by
  obtain ⟨ns, p, c, l, rfl, _⟩ := h
  have h : (ns.map D.int).all (L4.nr 11) = true := by
    rw [List.all_eq_true]
    intro d hd
    obtain ⟨i, _, rfl⟩ := List.mem_map.mp hd
    exact z_nri
  show List.all _ _ = true
  simp -implicitDefEqProofs [h]
theorem draw_eq {M : MO} (h : GD M) (n : Int) (h0 : 0 < n) (hn : n < 4294967296) : ∃ (v : Nat) (M' : MO), drawF [.ref 0, .int n] [M] = .ok (.int v) [M'] ∧ (v : Int) < n ∧ GD M' := by
  obtain ⟨ns, p, c, l, rfl, hl⟩ := h
  obtain ⟨x, p1, c1, l1, e1, hl1⟩ := drawA_eq ns p c l n hl
  obtain ⟨v, p2, c2, l2, e2, hv, hl2⟩ := drawB_eq ns p1 c1 l1 n x hl1 h0 hn
  refine ⟨v, stD ns p2 c2 l2, ?_, hv, ns, p2, c2, l2, rfl, hl2⟩
  refine fn_rt rfl ?_
  show sSeq drawA drawB [some (.ref 0), some (.int n), none, none] [stD ns p c l] = _
  rw [x_seq, e1, y_thn, e2]
theorem drawM {M : MO} (h : GD M) {st : Sto} {k : Nat} (hk : st[k]? = some M) (n : Int) (h0 : 0 < n) (hn : n < 4294967296) : ∃ (v : Nat) (M' : MO), callM drawF [.ref k, .int n] st = .ok (.int v) (st.set k M') ∧ (v : Int) < n ∧ GD M' := by
  obtain ⟨v, M', e, hv, h'⟩ := draw_eq h n h0 hn
  refine ⟨v, M', ?_, hv, h'⟩
  have hn : ([D.int n].all (nr 12)) = true := rfl
  unfold callM
  simp -implicitDefEqProofs only [hk, h.nr, hn, Bool.and_self, if_true, e, h'.nr, z_nri]
/-- the first state -/
def drawsF : List D → Sto → RE := mkF 1 1 (sRet (eLstM (aCons (eN (g0 listD) (aCons (eV 0) aNil)) (aCons (eC (.int 0)) (aCons (eC (.int 0)) (aCons (eC (.int 1)) aNil))))))
theorem drawsN (ns : List Int) (st : Sto) : ∃ M, callN drawsF [.scr ns] st = .ok (.ref st.length) (st ++ [M]) ∧ GD M := by
  have g : GD (stD ns 0 0 1) := ⟨ns, 0, 0, 1, rfl, by decide, by decide⟩
  refine ⟨stD ns 0 0 1, ?_, g⟩
  have e : drawsF [.scr ns] [] = .ok (.ref 0) [stD ns 0 0 1] := rfl
  have hn : ([D.scr ns].all (nr 12)) = true := rfl
  unfold callN
  simp -implicitDefEqProofs only [hn, if_true, e, List.getElem?_cons_zero, g.nr]
end L4
namespace L4
open PySem L2
theorem rgD_zero (lo : Int) : rgD lo 0 = [] := rfl
theorem rgD_succ (lo : Int) (n : Nat) : rgD lo (n + 1) = .int lo :: rgD (lo + 1) n := rfl
theorem rgD_map (lo : Int) (n : Nat) : rgD lo n = (List.range n).map fun (i : Nat) => .int (lo + i) := by
  induction n generalizing lo with
  | zero => rfl
  | succ n ih =>
    rw [rgD_succ, ih, List.range_succ_eq_map, List.map_cons, List.map_map]
    congr 1
    · simp
    · apply List.map_congr_left
      intro i _
      show D.int _ = D.int _
      congr 1
      show lo + 1 + (i : Int) = lo + ((i + 1 : Nat) : Int)
      omega
theorem lenOk_rg {n : Nat} {lo : Int} (h : n ≤ 1000000) : lenOk (rgD lo n).length = true := by rw [rgD_len]; exact lenOk_of h
theorem lenOk_map {α : Type} {f : α → D} {ys : List α} (h : ys.length ≤ 1000000) : lenOk (ys.map f).length = true := by rw [List.length_map]; exact lenOk_of h
theorem forGo_cons {b : Bd} {body : S} {d : D} {ds : List D} {ρ ρ1 ρ2 : Rho} {st st2 : Sto} (h1 : b d ρ = some ρ1) (h2 : body ρ1 st = .nx ρ2 st2) : sForGo b body (d :: ds) ρ st = sForGo b body ds ρ2 st2 := by
  rw [sForGo]; dsimp only; rw [h1]; dsimp only; rw [h2]
section
variable {b : Bd} {t f : E} {ρ0 ρ1 : Rho} {fin : List D → Sto → RE} {d y : D} {ds acc : List D} {st : Sto}
theorem lc_nil : lcGo b t f ρ0 fin [] st acc = fin acc.reverse st := rfl
theorem lc_true (h1 : b d ρ0 = some ρ1) (h2 : t ρ1 st = .ok (.bl true) st) (h3 : f ρ1 st = .ok y st) : lcGo b t f ρ0 fin (d :: ds) st acc = lcGo b t f ρ0 fin ds st (y :: acc) := by
  rw [lcGo]; rw [h1]; dsimp only; rw [h2]; dsimp only; rw [h3]
theorem lc_false (h1 : b d ρ0 = some ρ1) (h2 : t ρ1 st = .ok (.bl false) st) : lcGo b t f ρ0 fin (d :: ds) st acc = lcGo b t f ρ0 fin ds st acc := by
  rw [lcGo]; rw [h1]; dsimp only; rw [h2]
theorem lc_map {α : Type} (enc out : α → D) : ∀ (ys : List α) (acc : List D), (∀ y ∈ ys, ∃ ρ1, b (enc y) ρ0 = some ρ1 ∧ t ρ1 st = .ok (.bl true) st ∧ f ρ1 st = .ok (out y) st) → lcGo b t f ρ0 fin (ys.map enc) st acc = fin (acc.reverse ++ ys.map out) st := fun ys => by
  induction ys with
  | nil => intro acc _; simp [lc_nil]
  | cons y ys ih =>
    intro acc h
    obtain ⟨ρ1, h1, h2, h3⟩ := h y (List.mem_cons_self ..)
    rw [List.map_cons, lc_true h1 h2 h3, ih _ (fun z hz => h z (List.mem_cons_of_mem _ hz))]
    simp
theorem lc_none {α : Type} (enc : α → D) : ∀ (ys : List α) (acc : List D), (∀ y ∈ ys, ∃ ρ1, b (enc y) ρ0 = some ρ1 ∧ t ρ1 st = .ok (.bl false) st) → lcGo b t f ρ0 fin (ys.map enc) st acc = fin acc.reverse st := fun ys => by
  induction ys with
  | nil => intro acc _; simp [lc_nil]
  | cons y ys ih =>
    intro acc h
    obtain ⟨ρ1, h1, h2⟩ := h y (List.mem_cons_self ..)
    rw [List.map_cons, lc_false h1 h2, ih _ (fun z hz => h z (List.mem_cons_of_mem _ hz))]
end
theorem intsOf_map {α : Type} (f : α → Int) (ys : List α) : intsOf (ys.map fun y => .int (f y)) = some (ys.map f) := by
  induction ys with
  | nil => rfl
  | cons y ys ih => simp only [List.map_cons, intsOf, ih]
theorem z_sum {α : Type} (f : α → Int) (ys : List α) (st : Sto) : g0 sumD [.lst (ys.map fun y => .int (f y))] st = some (.int (ys.map f).sum, st) := by
  simp only [g0, sumD, listOf, intsOf_map]
/-! equality -/
theorem eqL_refl {f : D → D → Bool} : ∀ {ds : List D}, (∀ d ∈ ds, f d d = true) → eqL f ds ds = true := fun {ds} => by
  induction ds with
  | nil => intro _; rfl
  | cons d ds ih => intro h; simp only [eqL, h d (List.mem_cons_self ..), ih (fun x hx => h x (List.mem_cons_of_mem _ hx)), Bool.and_self]
theorem eqLeaf_refl {d : D} (h : shp 0 d = true) : eqLeaf d d = true := by
  cases d <;> first | rfl | (simp [eqLeaf]; done) | exact absurd h (by decide) | (exact absurd (show false = true from h) (by decide))
theorem eqv_refl : ∀ (n : Nat) (d : D), shp n d = true → eqvN n d d = true := fun n => by
  induction n with
  | zero => exact fun d h => eqLeaf_refl h
  | succ n ih =>
    intro d h
    cases d with
    | tup ds => exact eqL_refl fun x hx => ih x (List.all_eq_true.mp h x hx)
    | lst ds => exact eqL_refl fun x hx => ih x (List.all_eq_true.mp h x hx)
    | non => rfl
    | bl b => simp [eqvN, eqLeaf]
    | int i => simp [eqvN, eqLeaf]
    | str s => simp [eqvN, eqLeaf]
    | _ => exact absurd (show false = true from h) (by decide)
theorem eqD_refl {d : D} {st : Sto} (h : shp 8 d = true) : eqD d d st = some (.bl true) := by
  unfold eqD; rw [h]; simp [eqv_refl 8 d h]
theorem neD_refl {d : D} {st : Sto} (h : shp 8 d = true) : neD d d st = some (.bl false) := by
  unfold neD; rw [h]; simp [eqv_refl 8 d h]
/-! methods -/
def me2 (g : D → List D → Sto → Option (D × Sto)) (x : D) : RA → RE
  | .ok ds st => RE.of2 (g x ds st) | .exc x st => .exc x st | .stuck => .stuck
def me1 (T : String) (g : D → List D → Sto → Option (D × Sto)) (as : EA) (ρ : Rho) : RE → RE
  | .ok x st => if recB T x st = true then me2 g x (as ρ st) else .stuck | .exc x st => .exc x st | .stuck => .stuck
section
variable {T : String} {g : D → List D → Sto → Option (D × Sto)} {o : E} {as : EA} {ρ : Rho} {st : Sto} {x d : D} {ds : List D} {n : Nat}
@[simp] theorem x_met : eMet T g o as ρ st = me1 T g as ρ (o ρ st) := by
  unfold eMet
  cases o ρ st with
  | ok x st1 =>
    show (if recB T x st1 = true then _ else _) = (if recB T x st1 = true then me2 g x (as ρ st1) else .stuck)
    cases as ρ st1 <;> rfl
  | exc _ _ => rfl
  | stuck => rfl
theorem y_me1 (h : recB T x st = true) : me1 T g as ρ (.ok x st) = me2 g x (as ρ st) := by unfold me1; dsimp only; rw [if_pos h]
@[simp] theorem y_me2 : me2 g x (.ok ds st) = RE.of2 (g x ds st) := rfl
theorem rec_lst (h : st[n]? = some (.lst ds)) : recB "list" (.ref n) st = true := by simp [recB, h]
theorem app_lst (h : st[n]? = some (.lst ds)) (hl : ds.length ≤ 1000000) : appD (.ref n) [d] st = some (.non, st.set n (.lst (ds ++ [d]))) := by
  simp only [appD, h]; rw [if_pos hl]
end
end L4
namespace K51
open PySem L2 L4
open PyProof.Rows (envOfC)
def top (i : Nat) : Stmt := PySem.Challenge.pw_throwstold_k51_whole_paths_among_one_ano.main.body.getD i (.Pass ⟨0, 0, 0, 0⟩)
/-- what the top has left -/
structure Top (K : PySem.W.Frag) (mg : Str → Option Value) : Prop where
  z_abs : mg "abs" = none
  z_bool : mg "bool" = none
  z_int : mg "int" = none
  z_isinstance : mg "isinstance" = none
  z_len : mg "len" = none
  z_list : mg "list" = none
  z_max : mg "max" = none
  z_min : mg "min" = none
  z_range : mg "range" = none
  z_str : mg "str" = none
  z_sum : mg "sum" = none
  z_tuple : mg "tuple" = none
  c_MOST_STEPS : IsInt mg "MOST_STEPS" 200
  x_BadPlan : ∃ C, ExcF K mg "BadPlan" C
  x_BadShare : ∃ C, ExcF K mg "BadShare" C
  d_law_draw : DefF K mg "_law_draw" (top 24)
  d_law_draws : DefF K mg "_law_draws" (top 23)
  d_law_low : DefF K mg "_law_low" (top 27)
  d_law_plus : DefF K mg "_law_plus" (top 28)
  d_law_same : DefF K mg "_law_same" (top 26)
  d_law_sum : DefF K mg "_law_sum" (top 30)
  d_law_times : DefF K mg "_law_times" (top 29)
  d_law_two : DefF K mg "_law_two" (top 32)
  d_is_whole : DefF K mg "is_whole" (top 5)
  d_divisor : DefF K mg "divisor" (top 6)
  d_low : DefF K mg "low" (top 7)
  d_ahead_all : DefF K mg "ahead_all" (top 16)
  d_choose : DefF K mg "choose" (top 12)
  d_look_at_steps : DefF K mg "look_at_steps" (top 13)
  d_count_paths : DefF K mg "count_paths" (top 14)
  d_count_above : DefF K mg "count_above" (top 15)
  d_even_now : DefF K mg "even_now" (top 18)
  d_over : DefF K mg "over" (top 9)
  d_first_even : DefF K mg "first_even" (top 19)
  d_highest : DefF K mg "highest" (top 21)
  d_times : DefF K mg "times" (top 8)
  d_last_even : DefF K mg "last_even" (top 20)
  d_never_behind : DefF K mg "never_behind" (top 17)
  d_law : DefF K mg "law" (top 33)
/-! _law_draw -/
abbrev N_law_draw : List Str := ["draws", "limit", "cell", "value"]
theorem nk_law_draw_cell : (defScope (top 24)).names.lookup ("cell" : Str) = some NameKind.local := by decide +kernel
theorem nk_law_draw_draws : (defScope (top 24)).names.lookup ("draws" : Str) = some NameKind.local := by decide +kernel
theorem nk_law_draw_int : (defScope (top 24)).names.lookup ("int" : Str) = some NameKind.globalImplicit := by decide +kernel
theorem nk_law_draw_len : (defScope (top 24)).names.lookup ("len" : Str) = some NameKind.globalImplicit := by decide +kernel
theorem nk_law_draw_limit : (defScope (top 24)).names.lookup ("limit" : Str) = some NameKind.local := by decide +kernel
theorem nk_law_draw_value : (defScope (top 24)).names.lookup ("value" : Str) = some NameKind.local := by decide +kernel
def g_law_draw : S := (sSeq (sIf (eAnd (e2 eqD (e2 ixD (eV 0) (eC (.int 2))) (eC (.int 0))) (e2 ltD (e2 ixD (eV 0) (eC (.int 1))) (eN (g0 lenD) (aCons (e2 ixD (eV 0) (eC (.int 0))) aNil)))) (sSeq (sSet 2 (e2 ixD (e2 ixD (eV 0) (eC (.int 0))) (e2 ixD (eV 0) (eC (.int 1)))))
    (sSeq (sPut (e2 addD (e2 ixD (eV 0) (eC (.int 1))) (eC (.int 1))) (eV 0) (eC (.int 1)))
    (sSeq (sIf (e2 geD (eV 2) (e2 powD (eC (.int 10)) (eC (.int 18)))) (sPut (eV 2) (eV 0) (eC (.int 2))) sNx)
    (sPut (e2 modD (eN (g0 intD) (aCons (e2 addD (e2 addD (e2 mulD (e2 ixD (eV 0) (eC (.int 3))) (eC (.int 48271))) (eV 2)) (eC (.int 13))) aNil)) (eC (.int 2147483647))) (eV 0) (eC (.int 3)))))) sNx)
    (sSeq (sIf (e2 gtD (e2 ixD (eV 0) (eC (.int 2))) (eC (.int 0))) (sSeq (sSet 3 (e2 modD (eN (g0 intD) (aCons (e2 ixD (eV 0) (eC (.int 2))) aNil)) (eV 1)))
    (sSeq (sPut (e2 fdivD (e2 ixD (eV 0) (eC (.int 2))) (eV 1)) (eV 0) (eC (.int 2)))
    (sRet (eV 3)))) sNx)
    (sSeq (sPut (e2 modD (eN (g0 intD) (aCons (e2 addD (e2 mulD (e2 ixD (eV 0) (eC (.int 3))) (eC (.int 69621))) (eC (.int 7))) aNil)) (eC (.int 2147483629))) (eV 0) (eC (.int 3)))
    (sRet (e2 modD (eN (g0 intD) (aCons (e2 fdivD (e2 ixD (eV 0) (eC (.int 3))) (eC (.int 11))) aNil)) (eV 1))))))
def F_law_draw : List D → Sto → RE := mkF 2 4 g_law_draw
theorem sc_law_draw : FnScope ["draws", "limit", "cell", "value"] ["draws", "limit"] (defScope (top 24)) := ⟨rfl, rfl, rfl, by decide +kernel, rfl, by decide +kernel, by decide +kernel⟩
theorem ok_law_draw {P : Program} {w : World} {K : PySem.W.Frag} {mg : Str → Option Value} {base : Heap} (T : Top K mg)  : CallF P w K mg base 1 "_law_draw" ["draws", "limit"] F_law_draw := by
  exact mk_callF N_law_draw ["draws", "limit"] g_law_draw rfl T.d_law_draw sc_law_draw (fun _ _ _ _ _ _ us hl => match us, hl with | [_, _], _ => rfl) fun f cdv A outer s H Ex hr => by
    have hu := hr.units
    have tk := takes_of (X := cxOf (L2.CX P w) P w K mg base ["draws", "limit", "cell", "value"] "_law_draw" (defScope (top 24)) f cdv A outer s H Ex) rfl rfl rfl rfl
    have hp : PassesOwn (model P w) (cxOf (L2.CX P w) P w K mg base ["draws", "limit", "cell", "value"] "_law_draw" (defScope (top 24)) f cdv A outer s H Ex).A (cxOf (L2.CX P w) P w K mg base ["draws", "limit", "cell", "value"] "_law_draw" (defScope (top 24)) f cdv A outer s H Ex).env (cxOf (L2.CX P w) P w K mg base ["draws", "limit", "cell", "value"] "_law_draw" (defScope (top 24)) f cdv A outer s H Ex).xe := passes_of rfl
    exact (s_cons (s_if (rt_w (rw_and (teq hu (ix (v 0 rfl (Or.inl nk_law_draw_draws)) ci) ci) (rw_and1 (tlt (ix (v 0 rfl (Or.inl nk_law_draw_draws)) ci) (bf call_lenA f_len T.z_len nk_law_draw_len (by decide +kernel) (ra_cons (ix (v 0 rfl (Or.inl nk_law_draw_draws)) ci) ra_nil)))))) (s_cons (s_set (i := 2) sc_law_draw.nd rfl (Or.inl nk_law_draw_cell) (ix (ix (v 0 rfl (Or.inl nk_law_draw_draws)) ci) (ix (v 0 rfl (Or.inl nk_law_draw_draws)) ci)))
      (s_cons (s_put (add (ix (v 0 rfl (Or.inl nk_law_draw_draws)) ci) ci) (v 0 rfl (Or.inl nk_law_draw_draws)) ci)
      (s_cons (s_if (tge (v 2 rfl (Or.inl nk_law_draw_cell)) (pow ci ci)) (s_one (s_put (v 2 rfl (Or.inl nk_law_draw_cell)) (v 0 rfl (Or.inl nk_law_draw_draws)) ci)) s_nil)
      (s_one (s_put (mod (bt call_int1 f_int T.z_int nk_law_draw_int (by decide +kernel) (ra_cons (add (add (mul (ix (v 0 rfl (Or.inl nk_law_draw_draws)) ci) ci) (v 2 rfl (Or.inl nk_law_draw_cell))) ci) ra_nil)) ci) (v 0 rfl (Or.inl nk_law_draw_draws)) ci))))) s_nil)
      (s_cons (s_if (tgt (ix (v 0 rfl (Or.inl nk_law_draw_draws)) ci) ci) (s_cons (s_set (i := 3) sc_law_draw.nd rfl (Or.inl nk_law_draw_value) (mod (bt call_int1 f_int T.z_int nk_law_draw_int (by decide +kernel) (ra_cons (ix (v 0 rfl (Or.inl nk_law_draw_draws)) ci) ra_nil)) (v 1 rfl (Or.inl nk_law_draw_limit))))
      (s_cons (s_put (fdiv (ix (v 0 rfl (Or.inl nk_law_draw_draws)) ci) (v 1 rfl (Or.inl nk_law_draw_limit))) (v 0 rfl (Or.inl nk_law_draw_draws)) ci)
      (s_one (s_ret (v 3 rfl (Or.inl nk_law_draw_value)))))) s_nil)
      (s_cons (s_put (mod (bt call_int1 f_int T.z_int nk_law_draw_int (by decide +kernel) (ra_cons (add (mul (ix (v 0 rfl (Or.inl nk_law_draw_draws)) ci) ci) ci) ra_nil)) ci) (v 0 rfl (Or.inl nk_law_draw_draws)) ci)
      (s_one (s_ret (mod (bt call_int1 f_int T.z_int nk_law_draw_int (by decide +kernel) (ra_cons (fdiv (ix (v 0 rfl (Or.inl nk_law_draw_draws)) ci) ci) ra_nil)) (v 1 rfl (Or.inl nk_law_draw_limit))))))))
/-! _law_draws -/
abbrev N_law_draws : List Str := ["script"]
theorem nk_law_draws_list : (defScope (top 23)).names.lookup ("list" : Str) = some NameKind.globalImplicit := by decide +kernel
theorem nk_law_draws_script : (defScope (top 23)).names.lookup ("script" : Str) = some NameKind.local := by decide +kernel
def g_law_draws : S := (sRet (eLstM (aCons (eN (g0 listD) (aCons (eV 0) aNil)) (aCons (eC (.int 0)) (aCons (eC (.int 0)) (aCons (eC (.int 1)) aNil))))))
def F_law_draws : List D → Sto → RE := mkF 1 1 g_law_draws
theorem sc_law_draws : FnScope ["script"] ["script"] (defScope (top 23)) := ⟨rfl, rfl, rfl, by decide +kernel, rfl, by decide +kernel, by decide +kernel⟩
theorem ok_law_draws {P : Program} {w : World} {K : PySem.W.Frag} {mg : Str → Option Value} {base : Heap} (T : Top K mg)  : CallF P w K mg base 1 "_law_draws" ["script"] F_law_draws := by
  exact mk_callF N_law_draws ["script"] g_law_draws rfl T.d_law_draws sc_law_draws (fun _ _ _ _ _ _ us hl => match us, hl with | [_], _ => rfl) fun f cdv A outer s H Ex hr => by
    have hu := hr.units
    have tk := takes_of (X := cxOf (L2.CX P w) P w K mg base ["script"] "_law_draws" (defScope (top 23)) f cdv A outer s H Ex) rfl rfl rfl rfl
    have hp : PassesOwn (model P w) (cxOf (L2.CX P w) P w K mg base ["script"] "_law_draws" (defScope (top 23)) f cdv A outer s H Ex).A (cxOf (L2.CX P w) P w K mg base ["script"] "_law_draws" (defScope (top 23)) f cdv A outer s H Ex).env (cxOf (L2.CX P w) P w K mg base ["script"] "_law_draws" (defScope (top 23)) f cdv A outer s H Ex).xe := passes_of rfl
    exact (s_one (s_ret (r_lstM (ra_cons (bt call_list_of f_list T.z_list nk_law_draws_list (by decide +kernel) (ra_cons (v 0 rfl (Or.inl nk_law_draws_script)) ra_nil)) (ra_cons ci (ra_cons ci (ra_cons ci ra_nil)))))))
/-! _law_low -/
abbrev N_law_low : List Str := ["top", "bottom", "one", "two", "sign"]
theorem nk_law_low_abs : (defScope (top 27)).names.lookup ("abs" : Str) = some NameKind.globalImplicit := by decide +kernel
theorem nk_law_low_bottom : (defScope (top 27)).names.lookup ("bottom" : Str) = some NameKind.local := by decide +kernel
theorem nk_law_low_one : (defScope (top 27)).names.lookup ("one" : Str) = some NameKind.local := by decide +kernel
theorem nk_law_low_sign : (defScope (top 27)).names.lookup ("sign" : Str) = some NameKind.local := by decide +kernel
theorem nk_law_low_top : (defScope (top 27)).names.lookup ("top" : Str) = some NameKind.local := by decide +kernel
theorem nk_law_low_two : (defScope (top 27)).names.lookup ("two" : Str) = some NameKind.local := by decide +kernel
def g_law_low : S := (sSeq (sPar 2 3 (eN (g0 absD) (aCons (eV 0) aNil)) (eN (g0 absD) (aCons (eV 1) aNil)))
    (sSeq (sWhileM (e2 gtD (eV 3) (eC (.int 0))) (sPar 2 3 (eV 3) (e2 subD (eV 2) (e2 mulD (e2 fdivD (eV 2) (eV 3)) (eV 3)))) (muI 3))
    (sSeq (sSet 4 (eIf (e2 gtD (eV 1) (eC (.int 0))) (eC (.int 1)) (e1 negD (eC (.int 1)))))
    (sRet (eTup (aCons (e2 fdivD (e2 mulD (eV 4) (eV 0)) (eV 2)) (aCons (e2 fdivD (e2 mulD (eV 4) (eV 1)) (eV 2)) aNil)))))))
def F_law_low : List D → Sto → RE := mkF 2 5 g_law_low
theorem sc_law_low : FnScope ["top", "bottom", "one", "two", "sign"] ["top", "bottom"] (defScope (top 27)) := ⟨rfl, rfl, rfl, by decide +kernel, rfl, by decide +kernel, by decide +kernel⟩
theorem ok_law_low {P : Program} {w : World} {K : PySem.W.Frag} {mg : Str → Option Value} {base : Heap} (T : Top K mg)  : CallF P w K mg base 1 "_law_low" ["top", "bottom"] F_law_low := by
  exact mk_callF N_law_low ["top", "bottom"] g_law_low rfl T.d_law_low sc_law_low (fun _ _ _ _ _ _ us hl => match us, hl with | [_, _], _ => rfl) fun f cdv A outer s H Ex hr => by
    have hu := hr.units
    have tk := takes_of (X := cxOf (L2.CX P w) P w K mg base ["top", "bottom", "one", "two", "sign"] "_law_low" (defScope (top 27)) f cdv A outer s H Ex) rfl rfl rfl rfl
    have hp : PassesOwn (model P w) (cxOf (L2.CX P w) P w K mg base ["top", "bottom", "one", "two", "sign"] "_law_low" (defScope (top 27)) f cdv A outer s H Ex).A (cxOf (L2.CX P w) P w K mg base ["top", "bottom", "one", "two", "sign"] "_law_low" (defScope (top 27)) f cdv A outer s H Ex).env (cxOf (L2.CX P w) P w K mg base ["top", "bottom", "one", "two", "sign"] "_law_low" (defScope (top 27)) f cdv A outer s H Ex).xe := passes_of rfl
    exact (s_cons (s_par (i := 2) (j := 3) rfl sc_law_low.nd rfl rfl (by decide) nk_law_low_one nk_law_low_two (bf call_abs f_abs T.z_abs nk_law_low_abs (by decide +kernel) (ra_cons (v 0 rfl (Or.inl nk_law_low_top)) ra_nil)) (bf call_abs f_abs T.z_abs nk_law_low_abs (by decide +kernel) (ra_cons (v 1 rfl (Or.inl nk_law_low_bottom)) ra_nil)) rfl)
      (s_cons (s_whileM (muI 3) hp (tgt (v 3 rfl (Or.inl nk_law_low_two)) ci) (s_one (s_par (i := 2) (j := 3) rfl sc_law_low.nd rfl rfl (by decide) nk_law_low_one nk_law_low_two (v 3 rfl (Or.inl nk_law_low_two)) (sub (v 2 rfl (Or.inl nk_law_low_one)) (mul (fdiv (v 2 rfl (Or.inl nk_law_low_one)) (v 3 rfl (Or.inl nk_law_low_two))) (v 3 rfl (Or.inl nk_law_low_two)))) rfl)))
      (s_cons (s_set (i := 4) sc_law_low.nd rfl (Or.inl nk_law_low_sign) (r_if (tgt (v 1 rfl (Or.inl nk_law_low_bottom)) ci) ci (neg ci)))
      (s_one (s_ret (r_tup (ra_cons (fdiv (mul (v 4 rfl (Or.inl nk_law_low_sign)) (v 0 rfl (Or.inl nk_law_low_top))) (v 2 rfl (Or.inl nk_law_low_one))) (ra_cons (fdiv (mul (v 4 rfl (Or.inl nk_law_low_sign)) (v 1 rfl (Or.inl nk_law_low_bottom))) (v 2 rfl (Or.inl nk_law_low_one))) ra_nil))))))))
/-! _law_plus -/
abbrev N_law_plus : List Str := ["one", "two"]
theorem nk_law_plus__law_low : (defScope (top 28)).names.lookup ("_law_low" : Str) = some NameKind.globalImplicit := by decide +kernel
theorem nk_law_plus_one : (defScope (top 28)).names.lookup ("one" : Str) = some NameKind.local := by decide +kernel
theorem nk_law_plus_two : (defScope (top 28)).names.lookup ("two" : Str) = some NameKind.local := by decide +kernel
def g_law_plus : S := (sRet (eCall F_law_low (aCons (e2 addD (e2 mulD (e2 ixD (eV 0) (eC (.int 0))) (e2 ixD (eV 1) (eC (.int 1)))) (e2 mulD (e2 ixD (eV 1) (eC (.int 0))) (e2 ixD (eV 0) (eC (.int 1))))) (aCons (e2 mulD (e2 ixD (eV 0) (eC (.int 1))) (e2 ixD (eV 1) (eC (.int 1)))) aNil))))
def F_law_plus : List D → Sto → RE := mkF 2 2 g_law_plus
theorem sc_law_plus : FnScope ["one", "two"] ["one", "two"] (defScope (top 28)) := ⟨rfl, rfl, rfl, by decide +kernel, rfl, by decide +kernel, by decide +kernel⟩
theorem ok_law_plus {P : Program} {w : World} {K : PySem.W.Frag} {mg : Str → Option Value} {base : Heap} (T : Top K mg) (c_law_low : CallF P w K mg base 1 "_law_low" ["top", "bottom"] F_law_low) : CallF P w K mg base 2 "_law_plus" ["one", "two"] F_law_plus := by
  exact mk_callF N_law_plus ["one", "two"] g_law_plus rfl T.d_law_plus sc_law_plus (fun _ _ _ _ _ _ us hl => match us, hl with | [_, _], _ => rfl) fun f cdv A outer s H Ex hr => by
    have hu := hr.units
    have tk := takes_of (X := cxOf (L2.CX P w) P w K mg base ["one", "two"] "_law_plus" (defScope (top 28)) f cdv A outer s H Ex) rfl rfl rfl rfl
    have hp : PassesOwn (model P w) (cxOf (L2.CX P w) P w K mg base ["one", "two"] "_law_plus" (defScope (top 28)) f cdv A outer s H Ex).A (cxOf (L2.CX P w) P w K mg base ["one", "two"] "_law_plus" (defScope (top 28)) f cdv A outer s H Ex).env (cxOf (L2.CX P w) P w K mg base ["one", "two"] "_law_plus" (defScope (top 28)) f cdv A outer s H Ex).xe := passes_of rfl
    exact (s_one (s_ret (call c_law_low hr tk nk_law_plus__law_low (by decide) (ra_cons (add (mul (ix (v 0 rfl (Or.inl nk_law_plus_one)) ci) (ix (v 1 rfl (Or.inl nk_law_plus_two)) ci)) (mul (ix (v 1 rfl (Or.inl nk_law_plus_two)) ci) (ix (v 0 rfl (Or.inl nk_law_plus_one)) ci))) (ra_cons (mul (ix (v 0 rfl (Or.inl nk_law_plus_one)) ci) (ix (v 1 rfl (Or.inl nk_law_plus_two)) ci)) ra_nil)))))
/-! _law_same -/
abbrev N_law_same : List Str := ["actual", "expected", "k"]
theorem nk_law_same_actual : (defScope (top 26)).names.lookup ("actual" : Str) = some NameKind.cell := by decide +kernel
theorem nk_law_same_bool : (defScope (top 26)).names.lookup ("bool" : Str) = some NameKind.globalImplicit := by decide +kernel
theorem nk_law_same_expected : (defScope (top 26)).names.lookup ("expected" : Str) = some NameKind.cell := by decide +kernel
theorem nk_law_same_int : (defScope (top 26)).names.lookup ("int" : Str) = some NameKind.globalImplicit := by decide +kernel
theorem nk_law_same_isinstance : (defScope (top 26)).names.lookup ("isinstance" : Str) = some NameKind.globalImplicit := by decide +kernel
theorem nk_law_same_len : (defScope (top 26)).names.lookup ("len" : Str) = some NameKind.globalImplicit := by decide +kernel
theorem nk_law_same_list : (defScope (top 26)).names.lookup ("list" : Str) = some NameKind.globalImplicit := by decide +kernel
theorem nk_law_same_range : (defScope (top 26)).names.lookup ("range" : Str) = some NameKind.globalImplicit := by decide +kernel
theorem nk_law_same_str : (defScope (top 26)).names.lookup ("str" : Str) = some NameKind.globalImplicit := by decide +kernel
theorem nk_law_same_tuple : (defScope (top 26)).names.lookup ("tuple" : Str) = some NameKind.globalImplicit := by decide +kernel
def g_law_same (Fr : List D → Sto → RE) : S := (sSeq (sIf (eOr (eN (g0 isiD) (aCons (eV 1) (aCons (eC (.ty "tuple")) aNil))) (eN (g0 isiD) (aCons (eV 1) (aCons (eC (.ty "list")) aNil)))) (sSeq (sIf (eOr (e2 neD (eN (g0 isiD) (aCons (eV 0) (aCons (eC (.ty "tuple")) aNil))) (eN (g0 isiD) (aCons (eV 1) (aCons (eC (.ty "tuple")) aNil)))) (e2 neD (eN (g0 isiD) (aCons (eV 0) (aCons (eC (.ty "list")) aNil))) (eN (g0 isiD) (aCons (eV 1) (aCons (eC (.ty "list")) aNil))))) (sRet (eC (.bl false))) sNx)
    (sSeq (sIf (e2 neD (eN (g0 lenD) (aCons (eV 0) aNil)) (eN (g0 lenD) (aCons (eV 1) aNil))) (sRet (eC (.bl false))) sNx)
    (sRet (e2 eqD (eN (g0 lenD) (aCons (eLcB finL (iRg1 (eN (g0 lenD) (aCons (eV 1) aNil))) [2] (bName 2) (eNot (eCall Fr (aCons (e2 ixD (eV 0) (eV 2)) (aCons (e2 ixD (eV 1) (eV 2)) aNil)))) (eV 2)) aNil)) (eC (.int 0)))))) sNx)
    (sSeq (sIf (eOr (eN (g0 isiD) (aCons (eV 1) (aCons (eC (.ty "bool")) aNil))) (eN (g0 isiD) (aCons (eV 0) (aCons (eC (.ty "bool")) aNil)))) (sRet (eAnd (eN (g0 isiD) (aCons (eV 1) (aCons (eC (.ty "bool")) aNil))) (eAnd (eN (g0 isiD) (aCons (eV 0) (aCons (eC (.ty "bool")) aNil))) (e2 eqD (eV 0) (eV 1))))) sNx)
    (sSeq (sIf (eOr (e2 isD (eV 1) (eC .non)) (e2 isD (eV 0) (eC .non))) (sRet (eAnd (e2 isD (eV 1) (eC .non)) (e2 isD (eV 0) (eC .non)))) sNx)
    (sSeq (sIf (eOr (eN (g0 isiD) (aCons (eV 1) (aCons (eC (.ty "str")) aNil))) (eN (g0 isiD) (aCons (eV 0) (aCons (eC (.ty "str")) aNil)))) (sRet (eAnd (eN (g0 isiD) (aCons (eV 1) (aCons (eC (.ty "str")) aNil))) (eAnd (eN (g0 isiD) (aCons (eV 0) (aCons (eC (.ty "str")) aNil))) (e2 eqD (eV 0) (eV 1))))) sNx)
    (sRet (eAnd (eN (g0 isiD) (aCons (eV 0) (aCons (eC (.ty "int")) aNil))) (eAnd (eN (g0 isiD) (aCons (eV 1) (aCons (eC (.ty "int")) aNil))) (e2 eqD (eV 0) (eV 1)))))))))
def F_law_same : Nat → List D → Sto → RE
  | 0 => fun _ _ => .stuck
  | n + 1 => mkF 2 3 (g_law_same (F_law_same n))
theorem sc_law_same : FnScope ["actual", "expected", "k"] ["actual", "expected"] (defScope (top 26)) := ⟨rfl, rfl, rfl, by decide +kernel, rfl, by decide +kernel, by decide +kernel⟩
theorem ok_law_same {P : Program} {w : World} {K : PySem.W.Frag} {mg : Str → Option Value} {base : Heap} (T : Top K mg)  : ∀ n : Nat, CallF P w K mg base (n + 1) "_law_same" ["actual", "expected"] (F_law_same n) := by
  intro n
  induction n with
  | zero => exact call_stuck T.d_law_same (fun _ _ _ _ _ _ us hl => match us, hl with | [_, _], _ => rfl)
  | succ n cr =>
    exact mk_callF N_law_same ["actual", "expected"] (g_law_same (F_law_same n)) rfl T.d_law_same sc_law_same (fun _ _ _ _ _ _ us hl => match us, hl with | [_, _], _ => rfl) fun f cdv A outer s H Ex hr => by
      have hu := hr.units
      have tk := takes_of (X := cxOf (L2.CX P w) P w K mg base ["actual", "expected", "k"] "_law_same" (defScope (top 26)) f cdv A outer s H Ex) rfl rfl rfl rfl
      have hp : PassesOwn (model P w) (cxOf (L2.CX P w) P w K mg base ["actual", "expected", "k"] "_law_same" (defScope (top 26)) f cdv A outer s H Ex).A (cxOf (L2.CX P w) P w K mg base ["actual", "expected", "k"] "_law_same" (defScope (top 26)) f cdv A outer s H Ex).env (cxOf (L2.CX P w) P w K mg base ["actual", "expected", "k"] "_law_same" (defScope (top 26)) f cdv A outer s H Ex).xe := passes_of rfl
      exact (s_cons (s_if (rt_w (rw_or (rt_val (bf call_isi f_isi T.z_isinstance nk_law_same_isinstance (by decide +kernel) (ra_cons (v 1 rfl (Or.inr <| Or.inl nk_law_same_expected)) (ra_cons (cty nk_law_same_tuple T.z_tuple (by decide +kernel)) ra_nil)))) (rw_or1 (rt_val (bf call_isi f_isi T.z_isinstance nk_law_same_isinstance (by decide +kernel) (ra_cons (v 1 rfl (Or.inr <| Or.inl nk_law_same_expected)) (ra_cons (cty nk_law_same_list T.z_list (by decide +kernel)) ra_nil))))))) (s_cons (s_if (rt_w (rw_or (tne hu (bf call_isi f_isi T.z_isinstance nk_law_same_isinstance (by decide +kernel) (ra_cons (v 0 rfl (Or.inr <| Or.inl nk_law_same_actual)) (ra_cons (cty nk_law_same_tuple T.z_tuple (by decide +kernel)) ra_nil))) (bf call_isi f_isi T.z_isinstance nk_law_same_isinstance (by decide +kernel) (ra_cons (v 1 rfl (Or.inr <| Or.inl nk_law_same_expected)) (ra_cons (cty nk_law_same_tuple T.z_tuple (by decide +kernel)) ra_nil)))) (rw_or1 (tne hu (bf call_isi f_isi T.z_isinstance nk_law_same_isinstance (by decide +kernel) (ra_cons (v 0 rfl (Or.inr <| Or.inl nk_law_same_actual)) (ra_cons (cty nk_law_same_list T.z_list (by decide +kernel)) ra_nil))) (bf call_isi f_isi T.z_isinstance nk_law_same_isinstance (by decide +kernel) (ra_cons (v 1 rfl (Or.inr <| Or.inl nk_law_same_expected)) (ra_cons (cty nk_law_same_list T.z_list (by decide +kernel)) ra_nil))))))) (s_one (s_ret cb)) s_nil)
        (s_cons (s_if (tne hu (bf call_lenA f_len T.z_len nk_law_same_len (by decide +kernel) (ra_cons (v 0 rfl (Or.inr <| Or.inl nk_law_same_actual)) ra_nil)) (bf call_lenA f_len T.z_len nk_law_same_len (by decide +kernel) (ra_cons (v 1 rfl (Or.inr <| Or.inl nk_law_same_expected)) ra_nil))) (s_one (s_ret cb)) s_nil)
        (s_one (s_ret (eq hu (bf call_lenA f_len T.z_len nk_law_same_len (by decide +kernel) (ra_cons (r_lcB (own := [("k", 2)]) fin_L rfl sc_law_same.nd (i_rg1 nk_law_same_range T.z_range (bf call_lenA f_len T.z_len nk_law_same_len (by decide +kernel) (ra_cons (v 1 rfl (Or.inr <| Or.inl nk_law_same_expected)) ra_nil))) (blkOk_by (N := N_law_same) (sc := defScope (top 26)) (by decide +kernel)) (by decide) (fun _ _ _ _ _ => (g_name (i := 2) sc_law_same.nd rfl (Or.inl rfl))) (fun _ _ _ _ _ => (rts_one (rt_not (rt_val (call cr hr takes0 rfl (by omega) (ra_cons (ix (v 0) (v 2)) (ra_cons (ix (v 1) (v 2)) ra_nil))))))) (fun _ _ _ _ _ => (v 2))) ra_nil)) ci))))) s_nil)
        (s_cons (s_if (rt_w (rw_or (rt_val (bf call_isi f_isi T.z_isinstance nk_law_same_isinstance (by decide +kernel) (ra_cons (v 1 rfl (Or.inr <| Or.inl nk_law_same_expected)) (ra_cons (cty nk_law_same_bool T.z_bool (by decide +kernel)) ra_nil)))) (rw_or1 (rt_val (bf call_isi f_isi T.z_isinstance nk_law_same_isinstance (by decide +kernel) (ra_cons (v 0 rfl (Or.inr <| Or.inl nk_law_same_actual)) (ra_cons (cty nk_law_same_bool T.z_bool (by decide +kernel)) ra_nil))))))) (s_one (s_ret (r_and (bf call_isi f_isi T.z_isinstance nk_law_same_isinstance (by decide +kernel) (ra_cons (v 1 rfl (Or.inr <| Or.inl nk_law_same_expected)) (ra_cons (cty nk_law_same_bool T.z_bool (by decide +kernel)) ra_nil))) (r_and (bf call_isi f_isi T.z_isinstance nk_law_same_isinstance (by decide +kernel) (ra_cons (v 0 rfl (Or.inr <| Or.inl nk_law_same_actual)) (ra_cons (cty nk_law_same_bool T.z_bool (by decide +kernel)) ra_nil))) (r_one (eq hu (v 0 rfl (Or.inr <| Or.inl nk_law_same_actual)) (v 1 rfl (Or.inr <| Or.inl nk_law_same_expected)))))))) s_nil)
        (s_cons (s_if (rt_w (rw_or (tis_ (v 1 rfl (Or.inr <| Or.inl nk_law_same_expected)) cn) (rw_or1 (tis_ (v 0 rfl (Or.inr <| Or.inl nk_law_same_actual)) cn)))) (s_one (s_ret (r_and (is_ (v 1 rfl (Or.inr <| Or.inl nk_law_same_expected)) cn) (r_one (is_ (v 0 rfl (Or.inr <| Or.inl nk_law_same_actual)) cn))))) s_nil)
        (s_cons (s_if (rt_w (rw_or (rt_val (bf call_isi f_isi T.z_isinstance nk_law_same_isinstance (by decide +kernel) (ra_cons (v 1 rfl (Or.inr <| Or.inl nk_law_same_expected)) (ra_cons (cty nk_law_same_str T.z_str (by decide +kernel)) ra_nil)))) (rw_or1 (rt_val (bf call_isi f_isi T.z_isinstance nk_law_same_isinstance (by decide +kernel) (ra_cons (v 0 rfl (Or.inr <| Or.inl nk_law_same_actual)) (ra_cons (cty nk_law_same_str T.z_str (by decide +kernel)) ra_nil))))))) (s_one (s_ret (r_and (bf call_isi f_isi T.z_isinstance nk_law_same_isinstance (by decide +kernel) (ra_cons (v 1 rfl (Or.inr <| Or.inl nk_law_same_expected)) (ra_cons (cty nk_law_same_str T.z_str (by decide +kernel)) ra_nil))) (r_and (bf call_isi f_isi T.z_isinstance nk_law_same_isinstance (by decide +kernel) (ra_cons (v 0 rfl (Or.inr <| Or.inl nk_law_same_actual)) (ra_cons (cty nk_law_same_str T.z_str (by decide +kernel)) ra_nil))) (r_one (eq hu (v 0 rfl (Or.inr <| Or.inl nk_law_same_actual)) (v 1 rfl (Or.inr <| Or.inl nk_law_same_expected)))))))) s_nil)
        (s_one (s_ret (r_and (bf call_isi f_isi T.z_isinstance nk_law_same_isinstance (by decide +kernel) (ra_cons (v 0 rfl (Or.inr <| Or.inl nk_law_same_actual)) (ra_cons (cty nk_law_same_int T.z_int (by decide +kernel)) ra_nil))) (r_and (bf call_isi f_isi T.z_isinstance nk_law_same_isinstance (by decide +kernel) (ra_cons (v 1 rfl (Or.inr <| Or.inl nk_law_same_expected)) (ra_cons (cty nk_law_same_int T.z_int (by decide +kernel)) ra_nil))) (r_one (eq hu (v 0 rfl (Or.inr <| Or.inl nk_law_same_actual)) (v 1 rfl (Or.inr <| Or.inl nk_law_same_expected))))))))))))
/-! _law_sum -/
abbrev N_law_sum : List Str := ["row", "total", "one"]
theorem nk_law_sum__law_plus : (defScope (top 30)).names.lookup ("_law_plus" : Str) = some NameKind.globalImplicit := by decide +kernel
theorem nk_law_sum_one : (defScope (top 30)).names.lookup ("one" : Str) = some NameKind.local := by decide +kernel
theorem nk_law_sum_row : (defScope (top 30)).names.lookup ("row" : Str) = some NameKind.local := by decide +kernel
theorem nk_law_sum_total : (defScope (top 30)).names.lookup ("total" : Str) = some NameKind.local := by decide +kernel
def g_law_sum : S := (sSeq (sSet 1 (eTup (aCons (eC (.int 0)) (aCons (eC (.int 1)) aNil))))
    (sSeq (sFor (iSeq (eV 0)) (bName 2) (sSet 1 (eCall F_law_plus (aCons (eV 1) (aCons (eV 2) aNil)))))
    (sRet (eV 1))))
def F_law_sum : List D → Sto → RE := mkF 1 3 g_law_sum
theorem sc_law_sum : FnScope ["row", "total", "one"] ["row"] (defScope (top 30)) := ⟨rfl, rfl, rfl, by decide +kernel, rfl, by decide +kernel, by decide +kernel⟩
theorem ok_law_sum {P : Program} {w : World} {K : PySem.W.Frag} {mg : Str → Option Value} {base : Heap} (T : Top K mg) (c_law_plus : CallF P w K mg base 2 "_law_plus" ["one", "two"] F_law_plus) : CallF P w K mg base 3 "_law_sum" ["row"] F_law_sum := by
  exact mk_callF N_law_sum ["row"] g_law_sum rfl T.d_law_sum sc_law_sum (fun _ _ _ _ _ _ us hl => match us, hl with | [_], _ => rfl) fun f cdv A outer s H Ex hr => by
    have hu := hr.units
    have tk := takes_of (X := cxOf (L2.CX P w) P w K mg base ["row", "total", "one"] "_law_sum" (defScope (top 30)) f cdv A outer s H Ex) rfl rfl rfl rfl
    have hp : PassesOwn (model P w) (cxOf (L2.CX P w) P w K mg base ["row", "total", "one"] "_law_sum" (defScope (top 30)) f cdv A outer s H Ex).A (cxOf (L2.CX P w) P w K mg base ["row", "total", "one"] "_law_sum" (defScope (top 30)) f cdv A outer s H Ex).env (cxOf (L2.CX P w) P w K mg base ["row", "total", "one"] "_law_sum" (defScope (top 30)) f cdv A outer s H Ex).xe := passes_of rfl
    exact (s_cons (s_set (i := 1) sc_law_sum.nd rfl (Or.inl nk_law_sum_total) (r_tup (ra_cons ci (ra_cons ci ra_nil))))
      (s_cons (s_for hp rfl (i_seq (v 0 rfl (Or.inl nk_law_sum_row))) (g_name (i := 2) sc_law_sum.nd rfl (Or.inl nk_law_sum_one)) (s_one (s_set (i := 1) sc_law_sum.nd rfl (Or.inl nk_law_sum_total) (call c_law_plus hr tk nk_law_sum__law_plus (by decide) (ra_cons (v 1 rfl (Or.inl nk_law_sum_total)) (ra_cons (v 2 rfl (Or.inl nk_law_sum_one)) ra_nil))))))
      (s_one (s_ret (v 1 rfl (Or.inl nk_law_sum_total))))))
/-! _law_times -/
abbrev N_law_times : List Str := ["one", "two"]
theorem nk_law_times__law_low : (defScope (top 29)).names.lookup ("_law_low" : Str) = some NameKind.globalImplicit := by decide +kernel
theorem nk_law_times_one : (defScope (top 29)).names.lookup ("one" : Str) = some NameKind.local := by decide +kernel
theorem nk_law_times_two : (defScope (top 29)).names.lookup ("two" : Str) = some NameKind.local := by decide +kernel
def g_law_times : S := (sRet (eCall F_law_low (aCons (e2 mulD (e2 ixD (eV 0) (eC (.int 0))) (e2 ixD (eV 1) (eC (.int 0)))) (aCons (e2 mulD (e2 ixD (eV 0) (eC (.int 1))) (e2 ixD (eV 1) (eC (.int 1)))) aNil))))
def F_law_times : List D → Sto → RE := mkF 2 2 g_law_times
theorem sc_law_times : FnScope ["one", "two"] ["one", "two"] (defScope (top 29)) := ⟨rfl, rfl, rfl, by decide +kernel, rfl, by decide +kernel, by decide +kernel⟩
theorem ok_law_times {P : Program} {w : World} {K : PySem.W.Frag} {mg : Str → Option Value} {base : Heap} (T : Top K mg) (c_law_low : CallF P w K mg base 1 "_law_low" ["top", "bottom"] F_law_low) : CallF P w K mg base 2 "_law_times" ["one", "two"] F_law_times := by
  exact mk_callF N_law_times ["one", "two"] g_law_times rfl T.d_law_times sc_law_times (fun _ _ _ _ _ _ us hl => match us, hl with | [_, _], _ => rfl) fun f cdv A outer s H Ex hr => by
    have hu := hr.units
    have tk := takes_of (X := cxOf (L2.CX P w) P w K mg base ["one", "two"] "_law_times" (defScope (top 29)) f cdv A outer s H Ex) rfl rfl rfl rfl
    have hp : PassesOwn (model P w) (cxOf (L2.CX P w) P w K mg base ["one", "two"] "_law_times" (defScope (top 29)) f cdv A outer s H Ex).A (cxOf (L2.CX P w) P w K mg base ["one", "two"] "_law_times" (defScope (top 29)) f cdv A outer s H Ex).env (cxOf (L2.CX P w) P w K mg base ["one", "two"] "_law_times" (defScope (top 29)) f cdv A outer s H Ex).xe := passes_of rfl
    exact (s_one (s_ret (call c_law_low hr tk nk_law_times__law_low (by decide) (ra_cons (mul (ix (v 0 rfl (Or.inl nk_law_times_one)) ci) (ix (v 1 rfl (Or.inl nk_law_times_two)) ci)) (ra_cons (mul (ix (v 0 rfl (Or.inl nk_law_times_one)) ci) (ix (v 1 rfl (Or.inl nk_law_times_two)) ci)) ra_nil)))))
/-! _law_two -/
abbrev N_law_two : List Str := ["times_v", "found", "k"]
theorem nk_law_two_found : (defScope (top 32)).names.lookup ("found" : Str) = some NameKind.local := by decide +kernel
theorem nk_law_two_k : (defScope (top 32)).names.lookup ("k" : Str) = some NameKind.local := by decide +kernel
theorem nk_law_two_range : (defScope (top 32)).names.lookup ("range" : Str) = some NameKind.globalImplicit := by decide +kernel
theorem nk_law_two_times_v : (defScope (top 32)).names.lookup ("times_v" : Str) = some NameKind.local := by decide +kernel
def g_law_two : S := (sSeq (sSet 1 (eC (.int 1)))
    (sSeq (sFor (iRg1 (eV 0)) (bName 2) (sSet 1 (e2 mulD (eC (.int 2)) (eV 1))))
    (sRet (eV 1))))
def F_law_two : List D → Sto → RE := mkF 1 3 g_law_two
theorem sc_law_two : FnScope ["times_v", "found", "k"] ["times_v"] (defScope (top 32)) := ⟨rfl, rfl, rfl, by decide +kernel, rfl, by decide +kernel, by decide +kernel⟩
theorem ok_law_two {P : Program} {w : World} {K : PySem.W.Frag} {mg : Str → Option Value} {base : Heap} (T : Top K mg)  : CallF P w K mg base 1 "_law_two" ["times_v"] F_law_two := by
  exact mk_callF N_law_two ["times_v"] g_law_two rfl T.d_law_two sc_law_two (fun _ _ _ _ _ _ us hl => match us, hl with | [_], _ => rfl) fun f cdv A outer s H Ex hr => by
    have hu := hr.units
    have tk := takes_of (X := cxOf (L2.CX P w) P w K mg base ["times_v", "found", "k"] "_law_two" (defScope (top 32)) f cdv A outer s H Ex) rfl rfl rfl rfl
    have hp : PassesOwn (model P w) (cxOf (L2.CX P w) P w K mg base ["times_v", "found", "k"] "_law_two" (defScope (top 32)) f cdv A outer s H Ex).A (cxOf (L2.CX P w) P w K mg base ["times_v", "found", "k"] "_law_two" (defScope (top 32)) f cdv A outer s H Ex).env (cxOf (L2.CX P w) P w K mg base ["times_v", "found", "k"] "_law_two" (defScope (top 32)) f cdv A outer s H Ex).xe := passes_of rfl
    exact (s_cons (s_set (i := 1) sc_law_two.nd rfl (Or.inl nk_law_two_found) ci)
      (s_cons (s_for hp rfl (i_rg1 nk_law_two_range T.z_range (v 0 rfl (Or.inl nk_law_two_times_v))) (g_name (i := 2) sc_law_two.nd rfl (Or.inl nk_law_two_k)) (s_one (s_set (i := 1) sc_law_two.nd rfl (Or.inl nk_law_two_found) (mul ci (v 1 rfl (Or.inl nk_law_two_found))))))
      (s_one (s_ret (v 1 rfl (Or.inl nk_law_two_found))))))
/-! is_whole -/
abbrev N_is_whole : List Str := ["value"]
theorem nk_is_whole_bool : (defScope (top 5)).names.lookup ("bool" : Str) = some NameKind.globalImplicit := by decide +kernel
theorem nk_is_whole_int : (defScope (top 5)).names.lookup ("int" : Str) = some NameKind.globalImplicit := by decide +kernel
theorem nk_is_whole_isinstance : (defScope (top 5)).names.lookup ("isinstance" : Str) = some NameKind.globalImplicit := by decide +kernel
theorem nk_is_whole_value : (defScope (top 5)).names.lookup ("value" : Str) = some NameKind.local := by decide +kernel
def g_is_whole : S := (sRet (eAnd (eN (g0 isiD) (aCons (eV 0) (aCons (eC (.ty "int")) aNil))) (eNot (eN (g0 isiD) (aCons (eV 0) (aCons (eC (.ty "bool")) aNil))))))
def F_is_whole : List D → Sto → RE := mkF 1 1 g_is_whole
theorem sc_is_whole : FnScope ["value"] ["value"] (defScope (top 5)) := ⟨rfl, rfl, rfl, by decide +kernel, rfl, by decide +kernel, by decide +kernel⟩
theorem ok_is_whole {P : Program} {w : World} {K : PySem.W.Frag} {mg : Str → Option Value} {base : Heap} (T : Top K mg)  : CallF P w K mg base 1 "is_whole" ["value"] F_is_whole := by
  exact mk_callF N_is_whole ["value"] g_is_whole rfl T.d_is_whole sc_is_whole (fun _ _ _ _ _ _ us hl => match us, hl with | [_], _ => rfl) fun f cdv A outer s H Ex hr => by
    have hu := hr.units
    have tk := takes_of (X := cxOf (L2.CX P w) P w K mg base ["value"] "is_whole" (defScope (top 5)) f cdv A outer s H Ex) rfl rfl rfl rfl
    have hp : PassesOwn (model P w) (cxOf (L2.CX P w) P w K mg base ["value"] "is_whole" (defScope (top 5)) f cdv A outer s H Ex).A (cxOf (L2.CX P w) P w K mg base ["value"] "is_whole" (defScope (top 5)) f cdv A outer s H Ex).env (cxOf (L2.CX P w) P w K mg base ["value"] "is_whole" (defScope (top 5)) f cdv A outer s H Ex).xe := passes_of rfl
    exact (s_one (s_ret (r_and (bf call_isi f_isi T.z_isinstance nk_is_whole_isinstance (by decide +kernel) (ra_cons (v 0 rfl (Or.inl nk_is_whole_value)) (ra_cons (cty nk_is_whole_int T.z_int (by decide +kernel)) ra_nil))) (r_one (r_not (bf call_isi f_isi T.z_isinstance nk_is_whole_isinstance (by decide +kernel) (ra_cons (v 0 rfl (Or.inl nk_is_whole_value)) (ra_cons (cty nk_is_whole_bool T.z_bool (by decide +kernel)) ra_nil))))))))
/-! divisor -/
abbrev N_divisor : List Str := ["one", "other"]
theorem nk_divisor_abs : (defScope (top 6)).names.lookup ("abs" : Str) = some NameKind.globalImplicit := by decide +kernel
theorem nk_divisor_one : (defScope (top 6)).names.lookup ("one" : Str) = some NameKind.local := by decide +kernel
theorem nk_divisor_other : (defScope (top 6)).names.lookup ("other" : Str) = some NameKind.local := by decide +kernel
def g_divisor : S := (sSeq (sPar 0 1 (eN (g0 absD) (aCons (eV 0) aNil)) (eN (g0 absD) (aCons (eV 1) aNil)))
    (sSeq (sWhileM (e2 gtD (eV 1) (eC (.int 0))) (sPar 0 1 (eV 1) (e2 modD (eV 0) (eV 1))) (muI 1))
    (sRet (eV 0))))
def F_divisor : List D → Sto → RE := mkF 2 2 g_divisor
theorem sc_divisor : FnScope ["one", "other"] ["one", "other"] (defScope (top 6)) := ⟨rfl, rfl, rfl, by decide +kernel, rfl, by decide +kernel, by decide +kernel⟩
theorem ok_divisor {P : Program} {w : World} {K : PySem.W.Frag} {mg : Str → Option Value} {base : Heap} (T : Top K mg)  : CallF P w K mg base 1 "divisor" ["one", "other"] F_divisor := by
  exact mk_callF N_divisor ["one", "other"] g_divisor rfl T.d_divisor sc_divisor (fun _ _ _ _ _ _ us hl => match us, hl with | [_, _], _ => rfl) fun f cdv A outer s H Ex hr => by
    have hu := hr.units
    have tk := takes_of (X := cxOf (L2.CX P w) P w K mg base ["one", "other"] "divisor" (defScope (top 6)) f cdv A outer s H Ex) rfl rfl rfl rfl
    have hp : PassesOwn (model P w) (cxOf (L2.CX P w) P w K mg base ["one", "other"] "divisor" (defScope (top 6)) f cdv A outer s H Ex).A (cxOf (L2.CX P w) P w K mg base ["one", "other"] "divisor" (defScope (top 6)) f cdv A outer s H Ex).env (cxOf (L2.CX P w) P w K mg base ["one", "other"] "divisor" (defScope (top 6)) f cdv A outer s H Ex).xe := passes_of rfl
    exact (s_cons (s_par (i := 0) (j := 1) rfl sc_divisor.nd rfl rfl (by decide) nk_divisor_one nk_divisor_other (bf call_abs f_abs T.z_abs nk_divisor_abs (by decide +kernel) (ra_cons (v 0 rfl (Or.inl nk_divisor_one)) ra_nil)) (bf call_abs f_abs T.z_abs nk_divisor_abs (by decide +kernel) (ra_cons (v 1 rfl (Or.inl nk_divisor_other)) ra_nil)) rfl)
      (s_cons (s_whileM (muI 1) hp (tgt (v 1 rfl (Or.inl nk_divisor_other)) ci) (s_one (s_par (i := 0) (j := 1) rfl sc_divisor.nd rfl rfl (by decide) nk_divisor_one nk_divisor_other (v 1 rfl (Or.inl nk_divisor_other)) (mod (v 0 rfl (Or.inl nk_divisor_one)) (v 1 rfl (Or.inl nk_divisor_other))) rfl)))
      (s_one (s_ret (v 0 rfl (Or.inl nk_divisor_one))))))
/-! low -/
abbrev N_low : List Str := ["above", "below", "by"]
theorem nk_low_BadShare : (defScope (top 7)).names.lookup ("BadShare" : Str) = some NameKind.globalImplicit := by decide +kernel
theorem nk_low_above : (defScope (top 7)).names.lookup ("above" : Str) = some NameKind.local := by decide +kernel
theorem nk_low_below : (defScope (top 7)).names.lookup ("below" : Str) = some NameKind.local := by decide +kernel
theorem nk_low_by : (defScope (top 7)).names.lookup ("by" : Str) = some NameKind.local := by decide +kernel
theorem nk_low_divisor : (defScope (top 7)).names.lookup ("divisor" : Str) = some NameKind.globalImplicit := by decide +kernel
def g_low : S := (sSeq (sIf (e2 eqD (eV 1) (eC (.int 0))) (sRaise "BadShare") sNx)
    (sSeq (sSet 2 (eCall F_divisor (aCons (eV 0) (aCons (eV 1) aNil))))
    (sRet (eIf (e2 gtD (eV 1) (eC (.int 0))) (eTup (aCons (e2 fdivD (eV 0) (eV 2)) (aCons (e2 fdivD (eV 1) (eV 2)) aNil))) (eTup (aCons (e1 negD (e2 fdivD (eV 0) (eV 2))) (aCons (e1 negD (e2 fdivD (eV 1) (eV 2))) aNil)))))))
def F_low : List D → Sto → RE := mkF 2 3 g_low
theorem sc_low : FnScope ["above", "below", "by"] ["above", "below"] (defScope (top 7)) := ⟨rfl, rfl, rfl, by decide +kernel, rfl, by decide +kernel, by decide +kernel⟩
theorem ok_low {P : Program} {w : World} {K : PySem.W.Frag} {mg : Str → Option Value} {base : Heap} (T : Top K mg) (c_divisor : CallF P w K mg base 1 "divisor" ["one", "other"] F_divisor) : CallF P w K mg base 2 "low" ["above", "below"] F_low := by
  obtain ⟨C_BadShare, xf_BadShare⟩ := T.x_BadShare
  exact mk_callF N_low ["above", "below"] g_low rfl T.d_low sc_low (fun _ _ _ _ _ _ us hl => match us, hl with | [_, _], _ => rfl) fun f cdv A outer s H Ex hr => by
    have hu := hr.units
    have tk := takes_of (X := cxOf (L2.CX P w) P w K mg base ["above", "below", "by"] "low" (defScope (top 7)) f cdv A outer s H Ex) rfl rfl rfl rfl
    have hp : PassesOwn (model P w) (cxOf (L2.CX P w) P w K mg base ["above", "below", "by"] "low" (defScope (top 7)) f cdv A outer s H Ex).A (cxOf (L2.CX P w) P w K mg base ["above", "below", "by"] "low" (defScope (top 7)) f cdv A outer s H Ex).env (cxOf (L2.CX P w) P w K mg base ["above", "below", "by"] "low" (defScope (top 7)) f cdv A outer s H Ex).xe := passes_of rfl
    exact (s_cons (s_if (teq hu (v 1 rfl (Or.inl nk_low_below)) ci) (s_one (s_raise rfl tk xf_BadShare nk_low_BadShare)) s_nil)
      (s_cons (s_set (i := 2) sc_low.nd rfl (Or.inl nk_low_by) (call c_divisor hr tk nk_low_divisor (by decide) (ra_cons (v 0 rfl (Or.inl nk_low_above)) (ra_cons (v 1 rfl (Or.inl nk_low_below)) ra_nil))))
      (s_one (s_ret (r_if (tgt (v 1 rfl (Or.inl nk_low_below)) ci) (r_tup (ra_cons (fdiv (v 0 rfl (Or.inl nk_low_above)) (v 2 rfl (Or.inl nk_low_by))) (ra_cons (fdiv (v 1 rfl (Or.inl nk_low_below)) (v 2 rfl (Or.inl nk_low_by))) ra_nil))) (r_tup (ra_cons (neg (fdiv (v 0 rfl (Or.inl nk_low_above)) (v 2 rfl (Or.inl nk_low_by)))) (ra_cons (neg (fdiv (v 1 rfl (Or.inl nk_low_below)) (v 2 rfl (Or.inl nk_low_by)))) ra_nil))))))))
/-! ahead_all -/
abbrev N_ahead_all : List Str := ["first", "other"]
theorem nk_ahead_all_BadPlan : (defScope (top 16)).names.lookup ("BadPlan" : Str) = some NameKind.globalImplicit := by decide +kernel
theorem nk_ahead_all_first : (defScope (top 16)).names.lookup ("first" : Str) = some NameKind.local := by decide +kernel
theorem nk_ahead_all_is_whole : (defScope (top 16)).names.lookup ("is_whole" : Str) = some NameKind.globalImplicit := by decide +kernel
theorem nk_ahead_all_low : (defScope (top 16)).names.lookup ("low" : Str) = some NameKind.globalImplicit := by decide +kernel
theorem nk_ahead_all_max : (defScope (top 16)).names.lookup ("max" : Str) = some NameKind.globalImplicit := by decide +kernel
theorem nk_ahead_all_other : (defScope (top 16)).names.lookup ("other" : Str) = some NameKind.local := by decide +kernel
def g_ahead_all : S := (sSeq (sIf (eOr (eNot (eCall F_is_whole (aCons (eV 0) aNil))) (eOr (eNot (eCall F_is_whole (aCons (eV 1) aNil))) (eOr (e2 ltD (eV 0) (eC (.int 0))) (eOr (e2 ltD (eV 1) (eC (.int 0))) (e2 eqD (e2 addD (eV 0) (eV 1)) (eC (.int 0))))))) (sRaise "BadPlan") sNx)
    (sRet (eCall F_low (aCons (eN (g0 max2D) (aCons (eC (.int 0)) (aCons (e2 subD (eV 0) (eV 1)) aNil))) (aCons (e2 addD (eV 0) (eV 1)) aNil)))))
def F_ahead_all : List D → Sto → RE := mkF 2 2 g_ahead_all
theorem sc_ahead_all : FnScope ["first", "other"] ["first", "other"] (defScope (top 16)) := ⟨rfl, rfl, rfl, by decide +kernel, rfl, by decide +kernel, by decide +kernel⟩
theorem ok_ahead_all {P : Program} {w : World} {K : PySem.W.Frag} {mg : Str → Option Value} {base : Heap} (T : Top K mg) (c_is_whole : CallF P w K mg base 1 "is_whole" ["value"] F_is_whole) (c_low : CallF P w K mg base 2 "low" ["above", "below"] F_low) : CallF P w K mg base 3 "ahead_all" ["first", "other"] F_ahead_all := by
  obtain ⟨C_BadPlan, xf_BadPlan⟩ := T.x_BadPlan
  exact mk_callF N_ahead_all ["first", "other"] g_ahead_all rfl T.d_ahead_all sc_ahead_all (fun _ _ _ _ _ _ us hl => match us, hl with | [_, _], _ => rfl) fun f cdv A outer s H Ex hr => by
    have hu := hr.units
    have tk := takes_of (X := cxOf (L2.CX P w) P w K mg base ["first", "other"] "ahead_all" (defScope (top 16)) f cdv A outer s H Ex) rfl rfl rfl rfl
    have hp : PassesOwn (model P w) (cxOf (L2.CX P w) P w K mg base ["first", "other"] "ahead_all" (defScope (top 16)) f cdv A outer s H Ex).A (cxOf (L2.CX P w) P w K mg base ["first", "other"] "ahead_all" (defScope (top 16)) f cdv A outer s H Ex).env (cxOf (L2.CX P w) P w K mg base ["first", "other"] "ahead_all" (defScope (top 16)) f cdv A outer s H Ex).xe := passes_of rfl
    exact (s_cons (s_if (rt_w (rw_or (rt_not (rt_val (call c_is_whole hr tk nk_ahead_all_is_whole (by decide) (ra_cons (v 0 rfl (Or.inl nk_ahead_all_first)) ra_nil)))) (rw_or (rt_not (rt_val (call c_is_whole hr tk nk_ahead_all_is_whole (by decide) (ra_cons (v 1 rfl (Or.inl nk_ahead_all_other)) ra_nil)))) (rw_or (tlt (v 0 rfl (Or.inl nk_ahead_all_first)) ci) (rw_or (tlt (v 1 rfl (Or.inl nk_ahead_all_other)) ci) (rw_or1 (teq hu (add (v 0 rfl (Or.inl nk_ahead_all_first)) (v 1 rfl (Or.inl nk_ahead_all_other))) ci))))))) (s_one (s_raise rfl tk xf_BadPlan nk_ahead_all_BadPlan)) s_nil)
      (s_one (s_ret (call c_low hr tk nk_ahead_all_low (by decide) (ra_cons (bf (call_max2 rfl) f_max2 T.z_max nk_ahead_all_max (by decide +kernel) (ra_cons ci (ra_cons (sub (v 0 rfl (Or.inl nk_ahead_all_first)) (v 1 rfl (Or.inl nk_ahead_all_other))) ra_nil))) (ra_cons (add (v 0 rfl (Or.inl nk_ahead_all_first)) (v 1 rfl (Or.inl nk_ahead_all_other))) ra_nil))))))
/-! choose -/
abbrev N_choose : List Str := ["many", "some", "found", "one"]
theorem nk_choose_found : (defScope (top 12)).names.lookup ("found" : Str) = some NameKind.local := by decide +kernel
theorem nk_choose_many : (defScope (top 12)).names.lookup ("many" : Str) = some NameKind.local := by decide +kernel
theorem nk_choose_one : (defScope (top 12)).names.lookup ("one" : Str) = some NameKind.local := by decide +kernel
theorem nk_choose_range : (defScope (top 12)).names.lookup ("range" : Str) = some NameKind.globalImplicit := by decide +kernel
theorem nk_choose_some : (defScope (top 12)).names.lookup ("some" : Str) = some NameKind.local := by decide +kernel
def g_choose : S := (sSeq (sIf (eNot (eChain leD leD (eC (.int 0)) (eV 1) (eV 0))) (sRet (eC (.int 0))) sNx)
    (sSeq (sSet 2 (eC (.int 1)))
    (sSeq (sFor (iRg2 (eC (.int 1)) (e2 addD (eV 1) (eC (.int 1)))) (bName 3) (sSet 2 (e2 fdivD (e2 mulD (eV 2) (e2 addD (e2 subD (eV 0) (eV 1)) (eV 3))) (eV 3))))
    (sRet (eV 2)))))
def F_choose : List D → Sto → RE := mkF 2 4 g_choose
theorem sc_choose : FnScope ["many", "some", "found", "one"] ["many", "some"] (defScope (top 12)) := ⟨rfl, rfl, rfl, by decide +kernel, rfl, by decide +kernel, by decide +kernel⟩
theorem ok_choose {P : Program} {w : World} {K : PySem.W.Frag} {mg : Str → Option Value} {base : Heap} (T : Top K mg)  : CallF P w K mg base 1 "choose" ["many", "some"] F_choose := by
  exact mk_callF N_choose ["many", "some"] g_choose rfl T.d_choose sc_choose (fun _ _ _ _ _ _ us hl => match us, hl with | [_, _], _ => rfl) fun f cdv A outer s H Ex hr => by
    have hu := hr.units
    have tk := takes_of (X := cxOf (L2.CX P w) P w K mg base ["many", "some", "found", "one"] "choose" (defScope (top 12)) f cdv A outer s H Ex) rfl rfl rfl rfl
    have hp : PassesOwn (model P w) (cxOf (L2.CX P w) P w K mg base ["many", "some", "found", "one"] "choose" (defScope (top 12)) f cdv A outer s H Ex).A (cxOf (L2.CX P w) P w K mg base ["many", "some", "found", "one"] "choose" (defScope (top 12)) f cdv A outer s H Ex).env (cxOf (L2.CX P w) P w K mg base ["many", "some", "found", "one"] "choose" (defScope (top 12)) f cdv A outer s H Ex).xe := passes_of rfl
    exact (s_cons (s_if (rt_not (rt_chain op_le op_le o_le o_le ci (v 1 rfl (Or.inl nk_choose_some)) (v 0 rfl (Or.inl nk_choose_many)))) (s_one (s_ret ci)) s_nil)
      (s_cons (s_set (i := 2) sc_choose.nd rfl (Or.inl nk_choose_found) ci)
      (s_cons (s_for hp rfl (i_rg2 nk_choose_range T.z_range ci (add (v 1 rfl (Or.inl nk_choose_some)) ci)) (g_name (i := 3) sc_choose.nd rfl (Or.inl nk_choose_one)) (s_one (s_set (i := 2) sc_choose.nd rfl (Or.inl nk_choose_found) (fdiv (mul (v 2 rfl (Or.inl nk_choose_found)) (add (sub (v 0 rfl (Or.inl nk_choose_many)) (v 1 rfl (Or.inl nk_choose_some))) (v 3 rfl (Or.inl nk_choose_one)))) (v 3 rfl (Or.inl nk_choose_one))))))
      (s_one (s_ret (v 2 rfl (Or.inl nk_choose_found)))))))
/-! look_at_steps -/
abbrev N_look_at_steps : List Str := ["value"]
theorem nk_look_at_steps_BadPlan : (defScope (top 13)).names.lookup ("BadPlan" : Str) = some NameKind.globalImplicit := by decide +kernel
theorem nk_look_at_steps_MOST_STEPS : (defScope (top 13)).names.lookup ("MOST_STEPS" : Str) = some NameKind.globalImplicit := by decide +kernel
theorem nk_look_at_steps_is_whole : (defScope (top 13)).names.lookup ("is_whole" : Str) = some NameKind.globalImplicit := by decide +kernel
theorem nk_look_at_steps_value : (defScope (top 13)).names.lookup ("value" : Str) = some NameKind.local := by decide +kernel
def g_look_at_steps : S := (sIf (eOr (eNot (eCall F_is_whole (aCons (eV 0) aNil))) (eNot (eChain leD leD (eC (.int 0)) (eV 0) (eC (.int 200))))) (sRaise "BadPlan") sNx)
def F_look_at_steps : List D → Sto → RE := mkF 1 1 g_look_at_steps
theorem sc_look_at_steps : FnScope ["value"] ["value"] (defScope (top 13)) := ⟨rfl, rfl, rfl, by decide +kernel, rfl, by decide +kernel, by decide +kernel⟩
theorem ok_look_at_steps {P : Program} {w : World} {K : PySem.W.Frag} {mg : Str → Option Value} {base : Heap} (T : Top K mg) (c_is_whole : CallF P w K mg base 1 "is_whole" ["value"] F_is_whole) : CallF P w K mg base 2 "look_at_steps" ["value"] F_look_at_steps := by
  obtain ⟨C_BadPlan, xf_BadPlan⟩ := T.x_BadPlan
  exact mk_callF N_look_at_steps ["value"] g_look_at_steps rfl T.d_look_at_steps sc_look_at_steps (fun _ _ _ _ _ _ us hl => match us, hl with | [_], _ => rfl) fun f cdv A outer s H Ex hr => by
    have hu := hr.units
    have tk := takes_of (X := cxOf (L2.CX P w) P w K mg base ["value"] "look_at_steps" (defScope (top 13)) f cdv A outer s H Ex) rfl rfl rfl rfl
    have hp : PassesOwn (model P w) (cxOf (L2.CX P w) P w K mg base ["value"] "look_at_steps" (defScope (top 13)) f cdv A outer s H Ex).A (cxOf (L2.CX P w) P w K mg base ["value"] "look_at_steps" (defScope (top 13)) f cdv A outer s H Ex).env (cxOf (L2.CX P w) P w K mg base ["value"] "look_at_steps" (defScope (top 13)) f cdv A outer s H Ex).xe := passes_of rfl
    exact (s_one (s_if (rt_w (rw_or (rt_not (rt_val (call c_is_whole hr tk nk_look_at_steps_is_whole (by decide) (ra_cons (v 0 rfl (Or.inl nk_look_at_steps_value)) ra_nil)))) (rw_or1 (rt_not (rt_chain op_le op_le o_le o_le ci (v 0 rfl (Or.inl nk_look_at_steps_value)) (cgi T.c_MOST_STEPS nk_look_at_steps_MOST_STEPS)))))) (s_one (s_raise rfl tk xf_BadPlan nk_look_at_steps_BadPlan)) s_nil))
/-! count_paths -/
abbrev N_count_paths : List Str := ["steps", "end"]
theorem nk_count_paths_abs : (defScope (top 14)).names.lookup ("abs" : Str) = some NameKind.globalImplicit := by decide +kernel
theorem nk_count_paths_choose : (defScope (top 14)).names.lookup ("choose" : Str) = some NameKind.globalImplicit := by decide +kernel
theorem nk_count_paths_end : (defScope (top 14)).names.lookup ("end" : Str) = some NameKind.local := by decide +kernel
theorem nk_count_paths_look_at_steps : (defScope (top 14)).names.lookup ("look_at_steps" : Str) = some NameKind.globalImplicit := by decide +kernel
theorem nk_count_paths_steps : (defScope (top 14)).names.lookup ("steps" : Str) = some NameKind.local := by decide +kernel
def g_count_paths : S := (sSeq (sDrop (eCall F_look_at_steps (aCons (eV 0) aNil)))
    (sSeq (sIf (eOr (e2 eqD (e2 modD (e2 addD (eV 0) (eV 1)) (eC (.int 2))) (eC (.int 1))) (e2 gtD (eN (g0 absD) (aCons (eV 1) aNil)) (eV 0))) (sRet (eC (.int 0))) sNx)
    (sRet (eCall F_choose (aCons (eV 0) (aCons (e2 fdivD (e2 addD (eV 0) (eV 1)) (eC (.int 2))) aNil))))))
def F_count_paths : List D → Sto → RE := mkF 2 2 g_count_paths
theorem sc_count_paths : FnScope ["steps", "end"] ["steps", "end"] (defScope (top 14)) := ⟨rfl, rfl, rfl, by decide +kernel, rfl, by decide +kernel, by decide +kernel⟩
theorem ok_count_paths {P : Program} {w : World} {K : PySem.W.Frag} {mg : Str → Option Value} {base : Heap} (T : Top K mg) (c_choose : CallF P w K mg base 1 "choose" ["many", "some"] F_choose) (c_look_at_steps : CallF P w K mg base 2 "look_at_steps" ["value"] F_look_at_steps) : CallF P w K mg base 3 "count_paths" ["steps", "end"] F_count_paths := by
  exact mk_callF N_count_paths ["steps", "end"] g_count_paths rfl T.d_count_paths sc_count_paths (fun _ _ _ _ _ _ us hl => match us, hl with | [_, _], _ => rfl) fun f cdv A outer s H Ex hr => by
    have hu := hr.units
    have tk := takes_of (X := cxOf (L2.CX P w) P w K mg base ["steps", "end"] "count_paths" (defScope (top 14)) f cdv A outer s H Ex) rfl rfl rfl rfl
    have hp : PassesOwn (model P w) (cxOf (L2.CX P w) P w K mg base ["steps", "end"] "count_paths" (defScope (top 14)) f cdv A outer s H Ex).A (cxOf (L2.CX P w) P w K mg base ["steps", "end"] "count_paths" (defScope (top 14)) f cdv A outer s H Ex).env (cxOf (L2.CX P w) P w K mg base ["steps", "end"] "count_paths" (defScope (top 14)) f cdv A outer s H Ex).xe := passes_of rfl
    exact (s_cons (s_expr (call c_look_at_steps hr tk nk_count_paths_look_at_steps (by decide) (ra_cons (v 0 rfl (Or.inl nk_count_paths_steps)) ra_nil)))
      (s_cons (s_if (rt_w (rw_or (teq hu (mod (add (v 0 rfl (Or.inl nk_count_paths_steps)) (v 1 rfl (Or.inl nk_count_paths_end))) ci) ci) (rw_or1 (tgt (bf call_abs f_abs T.z_abs nk_count_paths_abs (by decide +kernel) (ra_cons (v 1 rfl (Or.inl nk_count_paths_end)) ra_nil)) (v 0 rfl (Or.inl nk_count_paths_steps)))))) (s_one (s_ret ci)) s_nil)
      (s_one (s_ret (call c_choose hr tk nk_count_paths_choose (by decide) (ra_cons (v 0 rfl (Or.inl nk_count_paths_steps)) (ra_cons (fdiv (add (v 0 rfl (Or.inl nk_count_paths_steps)) (v 1 rfl (Or.inl nk_count_paths_end))) ci) ra_nil)))))))
/-! count_above -/
abbrev N_count_above : List Str := ["steps", "start", "end"]
theorem nk_count_above_BadPlan : (defScope (top 15)).names.lookup ("BadPlan" : Str) = some NameKind.globalImplicit := by decide +kernel
theorem nk_count_above_count_paths : (defScope (top 15)).names.lookup ("count_paths" : Str) = some NameKind.globalImplicit := by decide +kernel
theorem nk_count_above_end : (defScope (top 15)).names.lookup ("end" : Str) = some NameKind.local := by decide +kernel
theorem nk_count_above_is_whole : (defScope (top 15)).names.lookup ("is_whole" : Str) = some NameKind.globalImplicit := by decide +kernel
theorem nk_count_above_start : (defScope (top 15)).names.lookup ("start" : Str) = some NameKind.local := by decide +kernel
theorem nk_count_above_steps : (defScope (top 15)).names.lookup ("steps" : Str) = some NameKind.local := by decide +kernel
def g_count_above : S := (sSeq (sIf (eOr (eNot (eCall F_is_whole (aCons (eV 1) aNil))) (eOr (eNot (eCall F_is_whole (aCons (eV 2) aNil))) (eOr (e2 ltD (eV 1) (eC (.int 0))) (e2 ltD (eV 2) (eC (.int 0)))))) (sRaise "BadPlan") sNx)
    (sRet (e2 subD (eCall F_count_paths (aCons (eV 0) (aCons (e2 subD (eV 2) (eV 1)) aNil))) (eCall F_count_paths (aCons (eV 0) (aCons (e2 subD (e2 subD (e1 negD (eV 2)) (eC (.int 2))) (eV 1)) aNil))))))
def F_count_above : List D → Sto → RE := mkF 3 3 g_count_above
theorem sc_count_above : FnScope ["steps", "start", "end"] ["steps", "start", "end"] (defScope (top 15)) := ⟨rfl, rfl, rfl, by decide +kernel, rfl, by decide +kernel, by decide +kernel⟩
theorem ok_count_above {P : Program} {w : World} {K : PySem.W.Frag} {mg : Str → Option Value} {base : Heap} (T : Top K mg) (c_count_paths : CallF P w K mg base 3 "count_paths" ["steps", "end"] F_count_paths) (c_is_whole : CallF P w K mg base 1 "is_whole" ["value"] F_is_whole) : CallF P w K mg base 4 "count_above" ["steps", "start", "end"] F_count_above := by
  obtain ⟨C_BadPlan, xf_BadPlan⟩ := T.x_BadPlan
  exact mk_callF N_count_above ["steps", "start", "end"] g_count_above rfl T.d_count_above sc_count_above (fun _ _ _ _ _ _ us hl => match us, hl with | [_, _, _], _ => rfl) fun f cdv A outer s H Ex hr => by
    have hu := hr.units
    have tk := takes_of (X := cxOf (L2.CX P w) P w K mg base ["steps", "start", "end"] "count_above" (defScope (top 15)) f cdv A outer s H Ex) rfl rfl rfl rfl
    have hp : PassesOwn (model P w) (cxOf (L2.CX P w) P w K mg base ["steps", "start", "end"] "count_above" (defScope (top 15)) f cdv A outer s H Ex).A (cxOf (L2.CX P w) P w K mg base ["steps", "start", "end"] "count_above" (defScope (top 15)) f cdv A outer s H Ex).env (cxOf (L2.CX P w) P w K mg base ["steps", "start", "end"] "count_above" (defScope (top 15)) f cdv A outer s H Ex).xe := passes_of rfl
    exact (s_cons (s_if (rt_w (rw_or (rt_not (rt_val (call c_is_whole hr tk nk_count_above_is_whole (by decide) (ra_cons (v 1 rfl (Or.inl nk_count_above_start)) ra_nil)))) (rw_or (rt_not (rt_val (call c_is_whole hr tk nk_count_above_is_whole (by decide) (ra_cons (v 2 rfl (Or.inl nk_count_above_end)) ra_nil)))) (rw_or (tlt (v 1 rfl (Or.inl nk_count_above_start)) ci) (rw_or1 (tlt (v 2 rfl (Or.inl nk_count_above_end)) ci)))))) (s_one (s_raise rfl tk xf_BadPlan nk_count_above_BadPlan)) s_nil)
      (s_one (s_ret (sub (call c_count_paths hr tk nk_count_above_count_paths (by decide) (ra_cons (v 0 rfl (Or.inl nk_count_above_steps)) (ra_cons (sub (v 2 rfl (Or.inl nk_count_above_end)) (v 1 rfl (Or.inl nk_count_above_start))) ra_nil))) (call c_count_paths hr tk nk_count_above_count_paths (by decide) (ra_cons (v 0 rfl (Or.inl nk_count_above_steps)) (ra_cons (sub (sub (neg (v 2 rfl (Or.inl nk_count_above_end))) ci) (v 1 rfl (Or.inl nk_count_above_start))) ra_nil)))))))
/-! even_now -/
abbrev N_even_now : List Str := ["half"]
theorem nk_even_now_choose : (defScope (top 18)).names.lookup ("choose" : Str) = some NameKind.globalImplicit := by decide +kernel
theorem nk_even_now_half : (defScope (top 18)).names.lookup ("half" : Str) = some NameKind.local := by decide +kernel
theorem nk_even_now_is_whole : (defScope (top 18)).names.lookup ("is_whole" : Str) = some NameKind.globalImplicit := by decide +kernel
theorem nk_even_now_look_at_steps : (defScope (top 18)).names.lookup ("look_at_steps" : Str) = some NameKind.globalImplicit := by decide +kernel
theorem nk_even_now_low : (defScope (top 18)).names.lookup ("low" : Str) = some NameKind.globalImplicit := by decide +kernel
def g_even_now : S := (sSeq (sDrop (eCall F_look_at_steps (aCons (eIf (eCall F_is_whole (aCons (eV 0) aNil)) (e2 mulD (eC (.int 2)) (eV 0)) (eV 0)) aNil)))
    (sRet (eCall F_low (aCons (eCall F_choose (aCons (e2 mulD (eC (.int 2)) (eV 0)) (aCons (eV 0) aNil))) (aCons (e2 shlD (eC (.int 1)) (e2 mulD (eC (.int 2)) (eV 0))) aNil)))))
def F_even_now : List D → Sto → RE := mkF 1 1 g_even_now
theorem sc_even_now : FnScope ["half"] ["half"] (defScope (top 18)) := ⟨rfl, rfl, rfl, by decide +kernel, rfl, by decide +kernel, by decide +kernel⟩
theorem ok_even_now {P : Program} {w : World} {K : PySem.W.Frag} {mg : Str → Option Value} {base : Heap} (T : Top K mg) (c_choose : CallF P w K mg base 1 "choose" ["many", "some"] F_choose) (c_is_whole : CallF P w K mg base 1 "is_whole" ["value"] F_is_whole) (c_look_at_steps : CallF P w K mg base 2 "look_at_steps" ["value"] F_look_at_steps) (c_low : CallF P w K mg base 2 "low" ["above", "below"] F_low) : CallF P w K mg base 3 "even_now" ["half"] F_even_now := by
  exact mk_callF N_even_now ["half"] g_even_now rfl T.d_even_now sc_even_now (fun _ _ _ _ _ _ us hl => match us, hl with | [_], _ => rfl) fun f cdv A outer s H Ex hr => by
    have hu := hr.units
    have tk := takes_of (X := cxOf (L2.CX P w) P w K mg base ["half"] "even_now" (defScope (top 18)) f cdv A outer s H Ex) rfl rfl rfl rfl
    have hp : PassesOwn (model P w) (cxOf (L2.CX P w) P w K mg base ["half"] "even_now" (defScope (top 18)) f cdv A outer s H Ex).A (cxOf (L2.CX P w) P w K mg base ["half"] "even_now" (defScope (top 18)) f cdv A outer s H Ex).env (cxOf (L2.CX P w) P w K mg base ["half"] "even_now" (defScope (top 18)) f cdv A outer s H Ex).xe := passes_of rfl
    exact (s_cons (s_expr (call c_look_at_steps hr tk nk_even_now_look_at_steps (by decide) (ra_cons (r_if (rt_val (call c_is_whole hr tk nk_even_now_is_whole (by decide) (ra_cons (v 0 rfl (Or.inl nk_even_now_half)) ra_nil))) (mul ci (v 0 rfl (Or.inl nk_even_now_half))) (v 0 rfl (Or.inl nk_even_now_half))) ra_nil)))
      (s_one (s_ret (call c_low hr tk nk_even_now_low (by decide) (ra_cons (call c_choose hr tk nk_even_now_choose (by decide) (ra_cons (mul ci (v 0 rfl (Or.inl nk_even_now_half))) (ra_cons (v 0 rfl (Or.inl nk_even_now_half)) ra_nil))) (ra_cons (shl ci (mul ci (v 0 rfl (Or.inl nk_even_now_half)))) ra_nil))))))
/-! over -/
abbrev N_over : List Str := ["one", "other"]
theorem nk_over_low : (defScope (top 9)).names.lookup ("low" : Str) = some NameKind.globalImplicit := by decide +kernel
theorem nk_over_one : (defScope (top 9)).names.lookup ("one" : Str) = some NameKind.local := by decide +kernel
theorem nk_over_other : (defScope (top 9)).names.lookup ("other" : Str) = some NameKind.local := by decide +kernel
def g_over : S := (sRet (eCall F_low (aCons (e2 mulD (e2 ixD (eV 0) (eC (.int 0))) (e2 ixD (eV 1) (eC (.int 1)))) (aCons (e2 mulD (e2 ixD (eV 0) (eC (.int 1))) (e2 ixD (eV 1) (eC (.int 0)))) aNil))))
def F_over : List D → Sto → RE := mkF 2 2 g_over
theorem sc_over : FnScope ["one", "other"] ["one", "other"] (defScope (top 9)) := ⟨rfl, rfl, rfl, by decide +kernel, rfl, by decide +kernel, by decide +kernel⟩
theorem ok_over {P : Program} {w : World} {K : PySem.W.Frag} {mg : Str → Option Value} {base : Heap} (T : Top K mg) (c_low : CallF P w K mg base 2 "low" ["above", "below"] F_low) : CallF P w K mg base 3 "over" ["one", "other"] F_over := by
  exact mk_callF N_over ["one", "other"] g_over rfl T.d_over sc_over (fun _ _ _ _ _ _ us hl => match us, hl with | [_, _], _ => rfl) fun f cdv A outer s H Ex hr => by
    have hu := hr.units
    have tk := takes_of (X := cxOf (L2.CX P w) P w K mg base ["one", "other"] "over" (defScope (top 9)) f cdv A outer s H Ex) rfl rfl rfl rfl
    have hp : PassesOwn (model P w) (cxOf (L2.CX P w) P w K mg base ["one", "other"] "over" (defScope (top 9)) f cdv A outer s H Ex).A (cxOf (L2.CX P w) P w K mg base ["one", "other"] "over" (defScope (top 9)) f cdv A outer s H Ex).env (cxOf (L2.CX P w) P w K mg base ["one", "other"] "over" (defScope (top 9)) f cdv A outer s H Ex).xe := passes_of rfl
    exact (s_one (s_ret (call c_low hr tk nk_over_low (by decide) (ra_cons (mul (ix (v 0 rfl (Or.inl nk_over_one)) ci) (ix (v 1 rfl (Or.inl nk_over_other)) ci)) (ra_cons (mul (ix (v 0 rfl (Or.inl nk_over_one)) ci) (ix (v 1 rfl (Or.inl nk_over_other)) ci)) ra_nil)))))
/-! first_even -/
abbrev N_first_even : List Str := ["half"]
theorem nk_first_even_BadPlan : (defScope (top 19)).names.lookup ("BadPlan" : Str) = some NameKind.globalImplicit := by decide +kernel
theorem nk_first_even_even_now : (defScope (top 19)).names.lookup ("even_now" : Str) = some NameKind.globalImplicit := by decide +kernel
theorem nk_first_even_half : (defScope (top 19)).names.lookup ("half" : Str) = some NameKind.local := by decide +kernel
theorem nk_first_even_is_whole : (defScope (top 19)).names.lookup ("is_whole" : Str) = some NameKind.globalImplicit := by decide +kernel
theorem nk_first_even_over : (defScope (top 19)).names.lookup ("over" : Str) = some NameKind.globalImplicit := by decide +kernel
def g_first_even : S := (sSeq (sIf (eOr (eNot (eCall F_is_whole (aCons (eV 0) aNil))) (e2 ltD (eV 0) (eC (.int 1)))) (sRaise "BadPlan") sNx)
    (sRet (eCall F_over (aCons (eCall F_even_now (aCons (eV 0) aNil)) (aCons (eTup (aCons (e2 subD (e2 mulD (eC (.int 2)) (eV 0)) (eC (.int 1))) (aCons (eC (.int 1)) aNil))) aNil)))))
def F_first_even : List D → Sto → RE := mkF 1 1 g_first_even
theorem sc_first_even : FnScope ["half"] ["half"] (defScope (top 19)) := ⟨rfl, rfl, rfl, by decide +kernel, rfl, by decide +kernel, by decide +kernel⟩
theorem ok_first_even {P : Program} {w : World} {K : PySem.W.Frag} {mg : Str → Option Value} {base : Heap} (T : Top K mg) (c_even_now : CallF P w K mg base 3 "even_now" ["half"] F_even_now) (c_is_whole : CallF P w K mg base 1 "is_whole" ["value"] F_is_whole) (c_over : CallF P w K mg base 3 "over" ["one", "other"] F_over) : CallF P w K mg base 4 "first_even" ["half"] F_first_even := by
  obtain ⟨C_BadPlan, xf_BadPlan⟩ := T.x_BadPlan
  exact mk_callF N_first_even ["half"] g_first_even rfl T.d_first_even sc_first_even (fun _ _ _ _ _ _ us hl => match us, hl with | [_], _ => rfl) fun f cdv A outer s H Ex hr => by
    have hu := hr.units
    have tk := takes_of (X := cxOf (L2.CX P w) P w K mg base ["half"] "first_even" (defScope (top 19)) f cdv A outer s H Ex) rfl rfl rfl rfl
    have hp : PassesOwn (model P w) (cxOf (L2.CX P w) P w K mg base ["half"] "first_even" (defScope (top 19)) f cdv A outer s H Ex).A (cxOf (L2.CX P w) P w K mg base ["half"] "first_even" (defScope (top 19)) f cdv A outer s H Ex).env (cxOf (L2.CX P w) P w K mg base ["half"] "first_even" (defScope (top 19)) f cdv A outer s H Ex).xe := passes_of rfl
    exact (s_cons (s_if (rt_w (rw_or (rt_not (rt_val (call c_is_whole hr tk nk_first_even_is_whole (by decide) (ra_cons (v 0 rfl (Or.inl nk_first_even_half)) ra_nil)))) (rw_or1 (tlt (v 0 rfl (Or.inl nk_first_even_half)) ci)))) (s_one (s_raise rfl tk xf_BadPlan nk_first_even_BadPlan)) s_nil)
      (s_one (s_ret (call c_over hr tk nk_first_even_over (by decide) (ra_cons (call c_even_now hr tk nk_first_even_even_now (by decide) (ra_cons (v 0 rfl (Or.inl nk_first_even_half)) ra_nil)) (ra_cons (r_tup (ra_cons (sub (mul ci (v 0 rfl (Or.inl nk_first_even_half))) ci) (ra_cons ci ra_nil))) ra_nil))))))
/-! highest -/
abbrev N_highest : List Str := ["steps", "found", "one"]
theorem nk_highest_count_paths : (defScope (top 21)).names.lookup ("count_paths" : Str) = some NameKind.globalImplicit := by decide +kernel
theorem nk_highest_found : (defScope (top 21)).names.lookup ("found" : Str) = some NameKind.local := by decide +kernel
theorem nk_highest_look_at_steps : (defScope (top 21)).names.lookup ("look_at_steps" : Str) = some NameKind.globalImplicit := by decide +kernel
theorem nk_highest_low : (defScope (top 21)).names.lookup ("low" : Str) = some NameKind.globalImplicit := by decide +kernel
theorem nk_highest_one : (defScope (top 21)).names.lookup ("one" : Str) = some NameKind.local := by decide +kernel
theorem nk_highest_range : (defScope (top 21)).names.lookup ("range" : Str) = some NameKind.globalImplicit := by decide +kernel
theorem nk_highest_steps : (defScope (top 21)).names.lookup ("steps" : Str) = some NameKind.local := by decide +kernel
theorem nk_highest_tuple : (defScope (top 21)).names.lookup ("tuple" : Str) = some NameKind.globalImplicit := by decide +kernel
def g_highest : S := (sSeq (sDrop (eCall F_look_at_steps (aCons (eV 0) aNil)))
    (sSeq (sSet 1 (eLstM aNil))
    (sSeq (sFor (iRg1 (e2 addD (eV 0) (eC (.int 1)))) (bName 2) (sDrop (eMet "list" appD (eV 1) (aCons (eCall F_low (aCons (e2 addD (eCall F_count_paths (aCons (eV 0) (aCons (eV 2) aNil))) (eCall F_count_paths (aCons (eV 0) (aCons (e2 addD (eV 2) (eC (.int 1))) aNil)))) (aCons (e2 shlD (eC (.int 1)) (eV 0)) aNil))) aNil))))
    (sRet (eN (g0 tupleD) (aCons (eV 1) aNil))))))
def F_highest : List D → Sto → RE := mkF 1 3 g_highest
theorem sc_highest : FnScope ["steps", "found", "one"] ["steps"] (defScope (top 21)) := ⟨rfl, rfl, rfl, by decide +kernel, rfl, by decide +kernel, by decide +kernel⟩
theorem ok_highest {P : Program} {w : World} {K : PySem.W.Frag} {mg : Str → Option Value} {base : Heap} (T : Top K mg) (c_count_paths : CallF P w K mg base 3 "count_paths" ["steps", "end"] F_count_paths) (c_look_at_steps : CallF P w K mg base 2 "look_at_steps" ["value"] F_look_at_steps) (c_low : CallF P w K mg base 2 "low" ["above", "below"] F_low) : CallF P w K mg base 4 "highest" ["steps"] F_highest := by
  exact mk_callF N_highest ["steps"] g_highest rfl T.d_highest sc_highest (fun _ _ _ _ _ _ us hl => match us, hl with | [_], _ => rfl) fun f cdv A outer s H Ex hr => by
    have hu := hr.units
    have tk := takes_of (X := cxOf (L2.CX P w) P w K mg base ["steps", "found", "one"] "highest" (defScope (top 21)) f cdv A outer s H Ex) rfl rfl rfl rfl
    have hp : PassesOwn (model P w) (cxOf (L2.CX P w) P w K mg base ["steps", "found", "one"] "highest" (defScope (top 21)) f cdv A outer s H Ex).A (cxOf (L2.CX P w) P w K mg base ["steps", "found", "one"] "highest" (defScope (top 21)) f cdv A outer s H Ex).env (cxOf (L2.CX P w) P w K mg base ["steps", "found", "one"] "highest" (defScope (top 21)) f cdv A outer s H Ex).xe := passes_of rfl
    exact (s_cons (s_expr (call c_look_at_steps hr tk nk_highest_look_at_steps (by decide) (ra_cons (v 0 rfl (Or.inl nk_highest_steps)) ra_nil)))
      (s_cons (s_set (i := 1) sc_highest.nd rfl (Or.inl nk_highest_found) (r_lstM ra_nil))
      (s_cons (s_for hp rfl (i_rg1 nk_highest_range T.z_range (add (v 0 rfl (Or.inl nk_highest_steps)) ci)) (g_name (i := 2) sc_highest.nd rfl (Or.inl nk_highest_one)) (s_one (s_expr (app (v 1 rfl (Or.inl nk_highest_found)) (call c_low hr tk nk_highest_low (by decide) (ra_cons (add (call c_count_paths hr tk nk_highest_count_paths (by decide) (ra_cons (v 0 rfl (Or.inl nk_highest_steps)) (ra_cons (v 2 rfl (Or.inl nk_highest_one)) ra_nil))) (call c_count_paths hr tk nk_highest_count_paths (by decide) (ra_cons (v 0 rfl (Or.inl nk_highest_steps)) (ra_cons (add (v 2 rfl (Or.inl nk_highest_one)) ci) ra_nil)))) (ra_cons (shl ci (v 0 rfl (Or.inl nk_highest_steps))) ra_nil)))))))
      (s_one (s_ret (bt call_tuple_of f_tuple T.z_tuple nk_highest_tuple (by decide +kernel) (ra_cons (v 1 rfl (Or.inl nk_highest_found)) ra_nil)))))))
/-! times -/
abbrev N_times : List Str := ["one", "other"]
theorem nk_times_low : (defScope (top 8)).names.lookup ("low" : Str) = some NameKind.globalImplicit := by decide +kernel
theorem nk_times_one : (defScope (top 8)).names.lookup ("one" : Str) = some NameKind.local := by decide +kernel
theorem nk_times_other : (defScope (top 8)).names.lookup ("other" : Str) = some NameKind.local := by decide +kernel
def g_times : S := (sRet (eCall F_low (aCons (e2 mulD (e2 ixD (eV 0) (eC (.int 0))) (e2 ixD (eV 1) (eC (.int 0)))) (aCons (e2 mulD (e2 ixD (eV 0) (eC (.int 1))) (e2 ixD (eV 1) (eC (.int 1)))) aNil))))
def F_times : List D → Sto → RE := mkF 2 2 g_times
theorem sc_times : FnScope ["one", "other"] ["one", "other"] (defScope (top 8)) := ⟨rfl, rfl, rfl, by decide +kernel, rfl, by decide +kernel, by decide +kernel⟩
theorem ok_times {P : Program} {w : World} {K : PySem.W.Frag} {mg : Str → Option Value} {base : Heap} (T : Top K mg) (c_low : CallF P w K mg base 2 "low" ["above", "below"] F_low) : CallF P w K mg base 3 "times" ["one", "other"] F_times := by
  exact mk_callF N_times ["one", "other"] g_times rfl T.d_times sc_times (fun _ _ _ _ _ _ us hl => match us, hl with | [_, _], _ => rfl) fun f cdv A outer s H Ex hr => by
    have hu := hr.units
    have tk := takes_of (X := cxOf (L2.CX P w) P w K mg base ["one", "other"] "times" (defScope (top 8)) f cdv A outer s H Ex) rfl rfl rfl rfl
    have hp : PassesOwn (model P w) (cxOf (L2.CX P w) P w K mg base ["one", "other"] "times" (defScope (top 8)) f cdv A outer s H Ex).A (cxOf (L2.CX P w) P w K mg base ["one", "other"] "times" (defScope (top 8)) f cdv A outer s H Ex).env (cxOf (L2.CX P w) P w K mg base ["one", "other"] "times" (defScope (top 8)) f cdv A outer s H Ex).xe := passes_of rfl
    exact (s_one (s_ret (call c_low hr tk nk_times_low (by decide) (ra_cons (mul (ix (v 0 rfl (Or.inl nk_times_one)) ci) (ix (v 1 rfl (Or.inl nk_times_other)) ci)) (ra_cons (mul (ix (v 0 rfl (Or.inl nk_times_one)) ci) (ix (v 1 rfl (Or.inl nk_times_other)) ci)) ra_nil)))))
/-! last_even -/
abbrev N_last_even : List Str := ["half", "one"]
theorem nk_last_even_half : (defScope (top 20)).names.lookup ("half" : Str) = some NameKind.cell := by decide +kernel
theorem nk_last_even_range : (defScope (top 20)).names.lookup ("range" : Str) = some NameKind.globalImplicit := by decide +kernel
theorem nk_last_even_tuple : (defScope (top 20)).names.lookup ("tuple" : Str) = some NameKind.globalImplicit := by decide +kernel
def g_last_even : S := (sRet (eN (g0 tupleD) (aCons (eLcB finL (iRg1 (e2 addD (eV 0) (eC (.int 1)))) [1] (bName 1) (eC (.bl true)) (eCall F_times (aCons (eCall F_even_now (aCons (eV 1) aNil)) (aCons (eCall F_even_now (aCons (e2 subD (eV 0) (eV 1)) aNil)) aNil)))) aNil)))
def F_last_even : List D → Sto → RE := mkF 1 2 g_last_even
theorem sc_last_even : FnScope ["half", "one"] ["half"] (defScope (top 20)) := ⟨rfl, rfl, rfl, by decide +kernel, rfl, by decide +kernel, by decide +kernel⟩
theorem ok_last_even {P : Program} {w : World} {K : PySem.W.Frag} {mg : Str → Option Value} {base : Heap} (T : Top K mg) (c_even_now : CallF P w K mg base 3 "even_now" ["half"] F_even_now) (c_times : CallF P w K mg base 3 "times" ["one", "other"] F_times) : CallF P w K mg base 4 "last_even" ["half"] F_last_even := by
  exact mk_callF N_last_even ["half"] g_last_even rfl T.d_last_even sc_last_even (fun _ _ _ _ _ _ us hl => match us, hl with | [_], _ => rfl) fun f cdv A outer s H Ex hr => by
    have hu := hr.units
    have tk := takes_of (X := cxOf (L2.CX P w) P w K mg base ["half", "one"] "last_even" (defScope (top 20)) f cdv A outer s H Ex) rfl rfl rfl rfl
    have hp : PassesOwn (model P w) (cxOf (L2.CX P w) P w K mg base ["half", "one"] "last_even" (defScope (top 20)) f cdv A outer s H Ex).A (cxOf (L2.CX P w) P w K mg base ["half", "one"] "last_even" (defScope (top 20)) f cdv A outer s H Ex).env (cxOf (L2.CX P w) P w K mg base ["half", "one"] "last_even" (defScope (top 20)) f cdv A outer s H Ex).xe := passes_of rfl
    exact (s_one (s_ret (bt call_tuple_of f_tuple T.z_tuple nk_last_even_tuple (by decide +kernel) (ra_cons (r_lcB (own := [("one", 1)]) fin_L rfl sc_last_even.nd (i_rg1 nk_last_even_range T.z_range (add (v 0 rfl (Or.inr <| Or.inl nk_last_even_half)) ci)) (blkOk_by (N := N_last_even) (sc := defScope (top 20)) (by decide +kernel)) (by decide) (fun _ _ _ _ _ => (g_name (i := 1) sc_last_even.nd rfl (Or.inl rfl))) (fun _ _ _ _ _ => rts_nil) (fun _ _ _ _ _ => (call c_times hr takes0 rfl (by decide) (ra_cons (call c_even_now hr takes0 rfl (by decide) (ra_cons (v 1) ra_nil)) (ra_cons (call c_even_now hr takes0 rfl (by decide) (ra_cons (sub (v 0) (v 1)) ra_nil)) ra_nil))))) ra_nil))))
/-! never_behind -/
abbrev N_never_behind : List Str := ["first", "other"]
theorem nk_never_behind_BadPlan : (defScope (top 17)).names.lookup ("BadPlan" : Str) = some NameKind.globalImplicit := by decide +kernel
theorem nk_never_behind_first : (defScope (top 17)).names.lookup ("first" : Str) = some NameKind.local := by decide +kernel
theorem nk_never_behind_is_whole : (defScope (top 17)).names.lookup ("is_whole" : Str) = some NameKind.globalImplicit := by decide +kernel
theorem nk_never_behind_low : (defScope (top 17)).names.lookup ("low" : Str) = some NameKind.globalImplicit := by decide +kernel
theorem nk_never_behind_max : (defScope (top 17)).names.lookup ("max" : Str) = some NameKind.globalImplicit := by decide +kernel
theorem nk_never_behind_other : (defScope (top 17)).names.lookup ("other" : Str) = some NameKind.local := by decide +kernel
def g_never_behind : S := (sSeq (sIf (eOr (eNot (eCall F_is_whole (aCons (eV 0) aNil))) (eOr (eNot (eCall F_is_whole (aCons (eV 1) aNil))) (eOr (e2 ltD (eV 0) (eC (.int 0))) (e2 ltD (eV 1) (eC (.int 0)))))) (sRaise "BadPlan") sNx)
    (sRet (eCall F_low (aCons (eN (g0 max2D) (aCons (eC (.int 0)) (aCons (e2 subD (e2 addD (eV 0) (eC (.int 1))) (eV 1)) aNil))) (aCons (e2 addD (eV 0) (eC (.int 1))) aNil)))))
def F_never_behind : List D → Sto → RE := mkF 2 2 g_never_behind
theorem sc_never_behind : FnScope ["first", "other"] ["first", "other"] (defScope (top 17)) := ⟨rfl, rfl, rfl, by decide +kernel, rfl, by decide +kernel, by decide +kernel⟩
theorem ok_never_behind {P : Program} {w : World} {K : PySem.W.Frag} {mg : Str → Option Value} {base : Heap} (T : Top K mg) (c_is_whole : CallF P w K mg base 1 "is_whole" ["value"] F_is_whole) (c_low : CallF P w K mg base 2 "low" ["above", "below"] F_low) : CallF P w K mg base 3 "never_behind" ["first", "other"] F_never_behind := by
  obtain ⟨C_BadPlan, xf_BadPlan⟩ := T.x_BadPlan
  exact mk_callF N_never_behind ["first", "other"] g_never_behind rfl T.d_never_behind sc_never_behind (fun _ _ _ _ _ _ us hl => match us, hl with | [_, _], _ => rfl) fun f cdv A outer s H Ex hr => by
    have hu := hr.units
    have tk := takes_of (X := cxOf (L2.CX P w) P w K mg base ["first", "other"] "never_behind" (defScope (top 17)) f cdv A outer s H Ex) rfl rfl rfl rfl
    have hp : PassesOwn (model P w) (cxOf (L2.CX P w) P w K mg base ["first", "other"] "never_behind" (defScope (top 17)) f cdv A outer s H Ex).A (cxOf (L2.CX P w) P w K mg base ["first", "other"] "never_behind" (defScope (top 17)) f cdv A outer s H Ex).env (cxOf (L2.CX P w) P w K mg base ["first", "other"] "never_behind" (defScope (top 17)) f cdv A outer s H Ex).xe := passes_of rfl
    exact (s_cons (s_if (rt_w (rw_or (rt_not (rt_val (call c_is_whole hr tk nk_never_behind_is_whole (by decide) (ra_cons (v 0 rfl (Or.inl nk_never_behind_first)) ra_nil)))) (rw_or (rt_not (rt_val (call c_is_whole hr tk nk_never_behind_is_whole (by decide) (ra_cons (v 1 rfl (Or.inl nk_never_behind_other)) ra_nil)))) (rw_or (tlt (v 0 rfl (Or.inl nk_never_behind_first)) ci) (rw_or1 (tlt (v 1 rfl (Or.inl nk_never_behind_other)) ci)))))) (s_one (s_raise rfl tk xf_BadPlan nk_never_behind_BadPlan)) s_nil)
      (s_one (s_ret (call c_low hr tk nk_never_behind_low (by decide) (ra_cons (bf (call_max2 rfl) f_max2 T.z_max nk_never_behind_max (by decide +kernel) (ra_cons ci (ra_cons (sub (add (v 0 rfl (Or.inl nk_never_behind_first)) ci) (v 1 rfl (Or.inl nk_never_behind_other))) ra_nil))) (ra_cons (add (v 0 rfl (Or.inl nk_never_behind_first)) ci) ra_nil))))))
/-! law -/
abbrev N_law : List Str := ["script", "draws", "steps", "start", "end", "below", "high", "half", "last", "firsts", "trips", "first", "other", "one"]
theorem nk_law__law_draw : (defScope (top 33)).names.lookup ("_law_draw" : Str) = some NameKind.globalImplicit := by decide +kernel
theorem nk_law__law_draws : (defScope (top 33)).names.lookup ("_law_draws" : Str) = some NameKind.globalImplicit := by decide +kernel
theorem nk_law__law_low : (defScope (top 33)).names.lookup ("_law_low" : Str) = some NameKind.globalImplicit := by decide +kernel
theorem nk_law__law_plus : (defScope (top 33)).names.lookup ("_law_plus" : Str) = some NameKind.globalImplicit := by decide +kernel
theorem nk_law__law_same : (defScope (top 33)).names.lookup ("_law_same" : Str) = some NameKind.globalImplicit := by decide +kernel
theorem nk_law__law_sum : (defScope (top 33)).names.lookup ("_law_sum" : Str) = some NameKind.globalImplicit := by decide +kernel
theorem nk_law__law_times : (defScope (top 33)).names.lookup ("_law_times" : Str) = some NameKind.globalImplicit := by decide +kernel
theorem nk_law__law_two : (defScope (top 33)).names.lookup ("_law_two" : Str) = some NameKind.globalImplicit := by decide +kernel
theorem nk_law_ahead_all : (defScope (top 33)).names.lookup ("ahead_all" : Str) = some NameKind.globalImplicit := by decide +kernel
theorem nk_law_below : (defScope (top 33)).names.lookup ("below" : Str) = some NameKind.local := by decide +kernel
theorem nk_law_choose : (defScope (top 33)).names.lookup ("choose" : Str) = some NameKind.globalImplicit := by decide +kernel
theorem nk_law_count_above : (defScope (top 33)).names.lookup ("count_above" : Str) = some NameKind.globalImplicit := by decide +kernel
theorem nk_law_count_paths : (defScope (top 33)).names.lookup ("count_paths" : Str) = some NameKind.globalImplicit := by decide +kernel
theorem nk_law_draws : (defScope (top 33)).names.lookup ("draws" : Str) = some NameKind.local := by decide +kernel
theorem nk_law_end : (defScope (top 33)).names.lookup ("end" : Str) = some NameKind.local := by decide +kernel
theorem nk_law_even_now : (defScope (top 33)).names.lookup ("even_now" : Str) = some NameKind.globalImplicit := by decide +kernel
theorem nk_law_first : (defScope (top 33)).names.lookup ("first" : Str) = some NameKind.local := by decide +kernel
theorem nk_law_first_even : (defScope (top 33)).names.lookup ("first_even" : Str) = some NameKind.globalImplicit := by decide +kernel
theorem nk_law_firsts : (defScope (top 33)).names.lookup ("firsts" : Str) = some NameKind.local := by decide +kernel
theorem nk_law_half : (defScope (top 33)).names.lookup ("half" : Str) = some NameKind.local := by decide +kernel
theorem nk_law_high : (defScope (top 33)).names.lookup ("high" : Str) = some NameKind.local := by decide +kernel
theorem nk_law_highest : (defScope (top 33)).names.lookup ("highest" : Str) = some NameKind.globalImplicit := by decide +kernel
theorem nk_law_last : (defScope (top 33)).names.lookup ("last" : Str) = some NameKind.local := by decide +kernel
theorem nk_law_last_even : (defScope (top 33)).names.lookup ("last_even" : Str) = some NameKind.globalImplicit := by decide +kernel
theorem nk_law_len : (defScope (top 33)).names.lookup ("len" : Str) = some NameKind.globalImplicit := by decide +kernel
theorem nk_law_min : (defScope (top 33)).names.lookup ("min" : Str) = some NameKind.globalImplicit := by decide +kernel
theorem nk_law_never_behind : (defScope (top 33)).names.lookup ("never_behind" : Str) = some NameKind.globalImplicit := by decide +kernel
theorem nk_law_other : (defScope (top 33)).names.lookup ("other" : Str) = some NameKind.local := by decide +kernel
theorem nk_law_range : (defScope (top 33)).names.lookup ("range" : Str) = some NameKind.globalImplicit := by decide +kernel
theorem nk_law_script : (defScope (top 33)).names.lookup ("script" : Str) = some NameKind.local := by decide +kernel
theorem nk_law_start : (defScope (top 33)).names.lookup ("start" : Str) = some NameKind.local := by decide +kernel
theorem nk_law_steps : (defScope (top 33)).names.lookup ("steps" : Str) = some NameKind.cell := by decide +kernel
theorem nk_law_sum : (defScope (top 33)).names.lookup ("sum" : Str) = some NameKind.globalImplicit := by decide +kernel
theorem nk_law_trips : (defScope (top 33)).names.lookup ("trips" : Str) = some NameKind.local := by decide +kernel
def g_law : S := (sSeq (sSet 1 (eCallN F_law_draws (aCons (eV 0) aNil)))
    (sSeq (sAsg (eTup (aCons (eCallM F_law_draw (aCons (eV 1) (aCons (eC (.int 60)) aNil))) (aCons (eCallM F_law_draw (aCons (eV 1) (aCons (eC (.int 8)) aNil))) (aCons (eCallM F_law_draw (aCons (eV 1) (aCons (eC (.int 12)) aNil))) aNil)))) (bTup 3 (bCons (bName 2) (bCons (bName 3) (bCons (bName 4) bNil)))))
    (sSeq (sSet 5 (eIf (e2 gtD (eV 4) (eC (.int 0))) (eCall F_count_above (aCons (eV 2) (aCons (eV 3) (aCons (e2 subD (eV 4) (eC (.int 1))) aNil)))) (eC (.int 0))))
    (sSeq (sIf (eNot (eCall (F_law_same 8) (aCons (eCall F_count_above (aCons (e2 addD (eV 2) (eC (.int 1))) (aCons (eV 3) (aCons (eV 4) aNil)))) (aCons (e2 addD (eV 5) (eCall F_count_above (aCons (eV 2) (aCons (eV 3) (aCons (e2 addD (eV 4) (eC (.int 1))) aNil))))) aNil)))) (sRet (eC (.bl false))) sNx)
    (sSeq (sIf (e2 neD (eN (g0 sumD) (aCons (eLcB finL (iRg1 (e2 addD (eV 2) (eC (.int 1)))) [13] (bName 13) (eC (.bl true)) (eCall F_count_above (aCons (eV 2) (aCons (eC (.int 0)) (aCons (eV 13) aNil))))) aNil)) (eCall F_choose (aCons (eV 2) (aCons (e2 fdivD (eV 2) (eC (.int 2))) aNil)))) (sRet (eC (.bl false))) sNx)
    (sSeq (sIf (eOr (e2 neD (eN (g0 sumD) (aCons (eLcB finL (iRg2 (e2 subD (eC (.int 0)) (eV 2)) (e2 addD (eV 2) (eC (.int 1)))) [13] (bName 13) (eC (.bl true)) (eCall F_count_paths (aCons (eV 2) (aCons (eV 13) aNil)))) aNil)) (eCall F_law_two (aCons (eV 2) aNil))) (e2 neD (eCall F_count_paths (aCons (eV 2) (aCons (eV 4) aNil))) (eCall F_count_paths (aCons (eV 2) (aCons (e2 subD (eC (.int 0)) (eV 4)) aNil))))) (sRet (eC (.bl false))) sNx)
    (sSeq (sSet 6 (eCall F_highest (aCons (eV 2) aNil)))
    (sSeq (sIf (eOr (e2 neD (eCall F_law_sum (aCons (eV 6) aNil)) (eTup (aCons (eC (.int 1)) (aCons (eC (.int 1)) aNil)))) (e2 neD (e2 ixD (eV 6) (eC (.int 0))) (eCall F_law_low (aCons (eCall F_choose (aCons (eV 2) (aCons (e2 fdivD (eV 2) (eC (.int 2))) aNil))) (aCons (eCall F_law_two (aCons (eV 2) aNil)) aNil))))) (sRet (eC (.bl false))) sNx)
    (sSeq (sSet 7 (eCallM F_law_draw (aCons (eV 1) (aCons (eC (.int 31)) aNil))))
    (sSeq (sSet 8 (eCall F_last_even (aCons (eV 7) aNil)))
    (sSeq (sIf (eOr (e2 neD (eCall F_law_sum (aCons (eV 8) aNil)) (eTup (aCons (eC (.int 1)) (aCons (eC (.int 1)) aNil)))) (eOr (e2 neD (eV 8) (e1 revD (eV 8))) (eOr (e2 neD (e2 ixD (eV 8) (eC (.int 0))) (eCall F_even_now (aCons (eV 7) aNil))) (e2 neD (eN (g0 lenD) (aCons (eV 8) aNil)) (e2 addD (eV 7) (eC (.int 1))))))) (sRet (eC (.bl false))) sNx)
    (sSeq (sSet 9 (eCall F_law_sum (aCons (eLcB finL (iRg2 (eC (.int 1)) (e2 addD (eV 7) (eC (.int 1)))) [13] (bName 13) (eC (.bl true)) (eCall F_first_even (aCons (eV 13) aNil))) aNil)))
    (sSeq (sIf (e2 neD (eCall F_law_plus (aCons (eV 9) (aCons (eCall F_even_now (aCons (eV 7) aNil)) aNil))) (eTup (aCons (eC (.int 1)) (aCons (eC (.int 1)) aNil)))) (sRet (eC (.bl false))) sNx)
    (sSeq (sSet 10 (eCall F_count_above (aCons (e2 mulD (eC (.int 2)) (eV 7)) (aCons (eC (.int 0)) (aCons (eC (.int 0)) aNil)))))
    (sSeq (sIf (eOr (e2 neD (e2 mulD (eV 10) (e2 addD (eV 7) (eC (.int 1)))) (eCall F_choose (aCons (e2 mulD (eC (.int 2)) (eV 7)) (aCons (eV 7) aNil)))) (e2 ltD (eCall F_count_above (aCons (e2 mulD (eC (.int 2)) (eV 7)) (aCons (eV 3) (aCons (eV 3) aNil)))) (eV 10))) (sRet (eC (.bl false))) sNx)
    (sSeq (sIf (eAnd (e2 gtD (eV 7) (eC (.int 0))) (e2 neD (eCall F_first_even (aCons (eV 7) aNil)) (eCall F_law_low (aCons (e2 mulD (eC (.int 2)) (eCall F_count_above (aCons (e2 subD (e2 mulD (eC (.int 2)) (eV 7)) (eC (.int 2))) (aCons (eC (.int 0)) (aCons (eC (.int 0)) aNil))))) (aCons (eCall F_law_two (aCons (e2 mulD (eC (.int 2)) (eV 7)) aNil)) aNil))))) (sRet (eC (.bl false))) sNx)
    (sSeq (sPar 11 12 (e2 addD (eC (.int 1)) (eCallM F_law_draw (aCons (eV 1) (aCons (eC (.int 30)) aNil)))) (eCallM F_law_draw (aCons (eV 1) (aCons (eC (.int 30)) aNil))))
    (sSeq (sIf (eNot (eCall (F_law_same 8) (aCons (eCall F_ahead_all (aCons (eV 11) (aCons (eV 12) aNil))) (aCons (eCall F_law_times (aCons (eCall F_law_low (aCons (eV 11) (aCons (e2 addD (eV 11) (eV 12)) aNil))) (aCons (eCall F_never_behind (aCons (e2 subD (eV 11) (eC (.int 1))) (aCons (eV 12) aNil))) aNil))) aNil)))) (sRet (eC (.bl false))) sNx)
    (sSeq (sIf (eAnd (e2 geD (eV 11) (eV 12)) (e2 neD (eCall F_never_behind (aCons (eV 11) (aCons (eV 12) aNil))) (eCall F_law_low (aCons (eCall F_count_above (aCons (e2 addD (eV 11) (eV 12)) (aCons (eC (.int 0)) (aCons (e2 subD (eV 11) (eV 12)) aNil)))) (aCons (eCall F_choose (aCons (e2 addD (eV 11) (eV 12)) (aCons (eV 12) aNil))) aNil))))) (sRet (eC (.bl false))) sNx)
    (sSeq (sIf (e2 eqD (eV 12) (eC (.int 0))) (sRet (e2 eqD (eCall F_ahead_all (aCons (eV 11) (aCons (eV 12) aNil))) (eTup (aCons (eC (.int 1)) (aCons (eC (.int 1)) aNil))))) sNx)
    (sRet (e2 eqD (eN (g0 min2D) (aCons (e2 ixD (eCall F_ahead_all (aCons (eV 11) (aCons (eV 12) aNil))) (eC (.int 0))) (aCons (e2 ixD (eCall F_ahead_all (aCons (eV 12) (aCons (eV 11) aNil))) (eC (.int 0))) aNil))) (eC (.int 0))))))))))))))))))))))))
def F_law : List D → Sto → RE := mkF 1 14 g_law
theorem sc_law : FnScope ["script", "draws", "steps", "start", "end", "below", "high", "half", "last", "firsts", "trips", "first", "other", "one"] ["script"] (defScope (top 33)) := ⟨rfl, rfl, rfl, by decide +kernel, rfl, by decide +kernel, by decide +kernel⟩
theorem ok_law {P : Program} {w : World} {K : PySem.W.Frag} {mg : Str → Option Value} {base : Heap} (T : Top K mg) {f : Addr} {fd : FuncData} (Fn : Fun K "law" "law" (top 33) f fd) (c_law_draw : CallF P w K mg base 1 "_law_draw" ["draws", "limit"] F_law_draw) (c_law_draws : CallF P w K mg base 1 "_law_draws" ["script"] F_law_draws) (c_law_low : CallF P w K mg base 1 "_law_low" ["top", "bottom"] F_law_low) (c_law_plus : CallF P w K mg base 2 "_law_plus" ["one", "two"] F_law_plus) (c_law_same : CallF P w K mg base 9 "_law_same" ["actual", "expected"] (F_law_same 8)) (c_law_sum : CallF P w K mg base 3 "_law_sum" ["row"] F_law_sum) (c_law_times : CallF P w K mg base 2 "_law_times" ["one", "two"] F_law_times) (c_law_two : CallF P w K mg base 1 "_law_two" ["times_v"] F_law_two) (c_ahead_all : CallF P w K mg base 3 "ahead_all" ["first", "other"] F_ahead_all) (c_choose : CallF P w K mg base 1 "choose" ["many", "some"] F_choose) (c_count_above : CallF P w K mg base 4 "count_above" ["steps", "start", "end"] F_count_above) (c_count_paths : CallF P w K mg base 3 "count_paths" ["steps", "end"] F_count_paths) (c_even_now : CallF P w K mg base 3 "even_now" ["half"] F_even_now) (c_first_even : CallF P w K mg base 4 "first_even" ["half"] F_first_even) (c_highest : CallF P w K mg base 4 "highest" ["steps"] F_highest) (c_last_even : CallF P w K mg base 4 "last_even" ["half"] F_last_even) (c_never_behind : CallF P w K mg base 3 "never_behind" ["first", "other"] F_never_behind) : FnOk P w K mg base (L2.CX P w) 10 f fd ["script"] (spF K mg F_law) := by
  exact fn_okF N_law ["script"] g_law rfl Fn sc_law fun f cdv A outer s H Ex hr => by
    have hu := hr.units
    have tk := takes_of (X := cxOf (L2.CX P w) P w K mg base ["script", "draws", "steps", "start", "end", "below", "high", "half", "last", "firsts", "trips", "first", "other", "one"] "law" (defScope (top 33)) f cdv A outer s H Ex) rfl rfl rfl rfl
    have hp : PassesOwn (model P w) (cxOf (L2.CX P w) P w K mg base ["script", "draws", "steps", "start", "end", "below", "high", "half", "last", "firsts", "trips", "first", "other", "one"] "law" (defScope (top 33)) f cdv A outer s H Ex).A (cxOf (L2.CX P w) P w K mg base ["script", "draws", "steps", "start", "end", "below", "high", "half", "last", "firsts", "trips", "first", "other", "one"] "law" (defScope (top 33)) f cdv A outer s H Ex).env (cxOf (L2.CX P w) P w K mg base ["script", "draws", "steps", "start", "end", "below", "high", "half", "last", "firsts", "trips", "first", "other", "one"] "law" (defScope (top 33)) f cdv A outer s H Ex).xe := passes_of rfl
    exact (s_cons (s_set (i := 1) sc_law.nd rfl (Or.inl nk_law_draws) (calln c_law_draws hr tk nk_law__law_draws (by decide) (ra_cons (v 0 rfl (Or.inl nk_law_script)) ra_nil)))
      (s_cons (s_asg (r_tup (ra_cons (callm c_law_draw hr tk nk_law__law_draw (by decide) (ra_cons (v 1 rfl (Or.inl nk_law_draws)) (ra_cons ci ra_nil))) (ra_cons (callm c_law_draw hr tk nk_law__law_draw (by decide) (ra_cons (v 1 rfl (Or.inl nk_law_draws)) (ra_cons ci ra_nil))) (ra_cons (callm c_law_draw hr tk nk_law__law_draw (by decide) (ra_cons (v 1 rfl (Or.inl nk_law_draws)) (ra_cons ci ra_nil))) ra_nil)))) (g_tup rfl (g_cons (g_name (i := 2) sc_law.nd rfl (Or.inr nk_law_steps)) (g_cons (g_name (i := 3) sc_law.nd rfl (Or.inl nk_law_start)) (g_cons (g_name (i := 4) sc_law.nd rfl (Or.inl nk_law_end)) g_nil)))))
      (s_cons (s_set (i := 5) sc_law.nd rfl (Or.inl nk_law_below) (r_if (tgt (v 4 rfl (Or.inl nk_law_end)) ci) (call c_count_above hr tk nk_law_count_above (by decide) (ra_cons (v 2 rfl (Or.inr <| Or.inl nk_law_steps)) (ra_cons (v 3 rfl (Or.inl nk_law_start)) (ra_cons (sub (v 4 rfl (Or.inl nk_law_end)) ci) ra_nil)))) ci))
      (s_cons (s_if (rt_not (rt_val (call c_law_same hr tk nk_law__law_same (by decide) (ra_cons (call c_count_above hr tk nk_law_count_above (by decide) (ra_cons (add (v 2 rfl (Or.inr <| Or.inl nk_law_steps)) ci) (ra_cons (v 3 rfl (Or.inl nk_law_start)) (ra_cons (v 4 rfl (Or.inl nk_law_end)) ra_nil)))) (ra_cons (add (v 5 rfl (Or.inl nk_law_below)) (call c_count_above hr tk nk_law_count_above (by decide) (ra_cons (v 2 rfl (Or.inr <| Or.inl nk_law_steps)) (ra_cons (v 3 rfl (Or.inl nk_law_start)) (ra_cons (add (v 4 rfl (Or.inl nk_law_end)) ci) ra_nil))))) ra_nil))))) (s_one (s_ret cb)) s_nil)
      (s_cons (s_if (tne hu (bf (cr_sum rfl) f_sum T.z_sum nk_law_sum (by decide +kernel) (ra_cons (r_lcB (own := [("one", 13)]) fin_L rfl sc_law.nd (i_rg1 nk_law_range T.z_range (add (v 2 rfl (Or.inr <| Or.inl nk_law_steps)) ci)) (blkOk_by (N := N_law) (sc := defScope (top 33)) (by decide +kernel)) (by decide) (fun _ _ _ _ _ => (g_name (i := 13) sc_law.nd rfl (Or.inl rfl))) (fun _ _ _ _ _ => rts_nil) (fun _ _ _ _ _ => (call c_count_above hr takes0 rfl (by decide) (ra_cons (v 2) (ra_cons ci (ra_cons (v 13) ra_nil)))))) ra_nil)) (call c_choose hr tk nk_law_choose (by decide) (ra_cons (v 2 rfl (Or.inr <| Or.inl nk_law_steps)) (ra_cons (fdiv (v 2 rfl (Or.inr <| Or.inl nk_law_steps)) ci) ra_nil)))) (s_one (s_ret cb)) s_nil)
      (s_cons (s_if (rt_w (rw_or (tne hu (bf (cr_sum rfl) f_sum T.z_sum nk_law_sum (by decide +kernel) (ra_cons (r_lcB (own := [("one", 13)]) fin_L rfl sc_law.nd (i_rg2 nk_law_range T.z_range (sub ci (v 2 rfl (Or.inr <| Or.inl nk_law_steps))) (add (v 2 rfl (Or.inr <| Or.inl nk_law_steps)) ci)) (blkOk_by (N := N_law) (sc := defScope (top 33)) (by decide +kernel)) (by decide) (fun _ _ _ _ _ => (g_name (i := 13) sc_law.nd rfl (Or.inl rfl))) (fun _ _ _ _ _ => rts_nil) (fun _ _ _ _ _ => (call c_count_paths hr takes0 rfl (by decide) (ra_cons (v 2) (ra_cons (v 13) ra_nil))))) ra_nil)) (call c_law_two hr tk nk_law__law_two (by decide) (ra_cons (v 2 rfl (Or.inr <| Or.inl nk_law_steps)) ra_nil))) (rw_or1 (tne hu (call c_count_paths hr tk nk_law_count_paths (by decide) (ra_cons (v 2 rfl (Or.inr <| Or.inl nk_law_steps)) (ra_cons (v 4 rfl (Or.inl nk_law_end)) ra_nil))) (call c_count_paths hr tk nk_law_count_paths (by decide) (ra_cons (v 2 rfl (Or.inr <| Or.inl nk_law_steps)) (ra_cons (sub ci (v 4 rfl (Or.inl nk_law_end))) ra_nil))))))) (s_one (s_ret cb)) s_nil)
      (s_cons (s_set (i := 6) sc_law.nd rfl (Or.inl nk_law_high) (call c_highest hr tk nk_law_highest (by decide) (ra_cons (v 2 rfl (Or.inr <| Or.inl nk_law_steps)) ra_nil)))
      (s_cons (s_if (rt_w (rw_or (tne hu (call c_law_sum hr tk nk_law__law_sum (by decide) (ra_cons (v 6 rfl (Or.inl nk_law_high)) ra_nil)) (r_tup (ra_cons ci (ra_cons ci ra_nil)))) (rw_or1 (tne hu (ix (v 6 rfl (Or.inl nk_law_high)) ci) (call c_law_low hr tk nk_law__law_low (by decide) (ra_cons (call c_choose hr tk nk_law_choose (by decide) (ra_cons (v 2 rfl (Or.inr <| Or.inl nk_law_steps)) (ra_cons (fdiv (v 2 rfl (Or.inr <| Or.inl nk_law_steps)) ci) ra_nil))) (ra_cons (call c_law_two hr tk nk_law__law_two (by decide) (ra_cons (v 2 rfl (Or.inr <| Or.inl nk_law_steps)) ra_nil)) ra_nil))))))) (s_one (s_ret cb)) s_nil)
      (s_cons (s_set (i := 7) sc_law.nd rfl (Or.inl nk_law_half) (callm c_law_draw hr tk nk_law__law_draw (by decide) (ra_cons (v 1 rfl (Or.inl nk_law_draws)) (ra_cons ci ra_nil))))
      (s_cons (s_set (i := 8) sc_law.nd rfl (Or.inl nk_law_last) (call c_last_even hr tk nk_law_last_even (by decide) (ra_cons (v 7 rfl (Or.inl nk_law_half)) ra_nil)))
      (s_cons (s_if (rt_w (rw_or (tne hu (call c_law_sum hr tk nk_law__law_sum (by decide) (ra_cons (v 8 rfl (Or.inl nk_law_last)) ra_nil)) (r_tup (ra_cons ci (ra_cons ci ra_nil)))) (rw_or (tne hu (v 8 rfl (Or.inl nk_law_last)) (r_rev (v 8 rfl (Or.inl nk_law_last)))) (rw_or (tne hu (ix (v 8 rfl (Or.inl nk_law_last)) ci) (call c_even_now hr tk nk_law_even_now (by decide) (ra_cons (v 7 rfl (Or.inl nk_law_half)) ra_nil))) (rw_or1 (tne hu (bf call_lenA f_len T.z_len nk_law_len (by decide +kernel) (ra_cons (v 8 rfl (Or.inl nk_law_last)) ra_nil)) (add (v 7 rfl (Or.inl nk_law_half)) ci))))))) (s_one (s_ret cb)) s_nil)
      (s_cons (s_set (i := 9) sc_law.nd rfl (Or.inl nk_law_firsts) (call c_law_sum hr tk nk_law__law_sum (by decide) (ra_cons (r_lcB (own := [("one", 13)]) fin_L rfl sc_law.nd (i_rg2 nk_law_range T.z_range ci (add (v 7 rfl (Or.inl nk_law_half)) ci)) (blkOk_by (N := N_law) (sc := defScope (top 33)) (by decide +kernel)) (by decide) (fun _ _ _ _ _ => (g_name (i := 13) sc_law.nd rfl (Or.inl rfl))) (fun _ _ _ _ _ => rts_nil) (fun _ _ _ _ _ => (call c_first_even hr takes0 rfl (by decide) (ra_cons (v 13) ra_nil)))) ra_nil)))
      (s_cons (s_if (tne hu (call c_law_plus hr tk nk_law__law_plus (by decide) (ra_cons (v 9 rfl (Or.inl nk_law_firsts)) (ra_cons (call c_even_now hr tk nk_law_even_now (by decide) (ra_cons (v 7 rfl (Or.inl nk_law_half)) ra_nil)) ra_nil))) (r_tup (ra_cons ci (ra_cons ci ra_nil)))) (s_one (s_ret cb)) s_nil)
      (s_cons (s_set (i := 10) sc_law.nd rfl (Or.inl nk_law_trips) (call c_count_above hr tk nk_law_count_above (by decide) (ra_cons (mul ci (v 7 rfl (Or.inl nk_law_half))) (ra_cons ci (ra_cons ci ra_nil)))))
      (s_cons (s_if (rt_w (rw_or (tne hu (mul (v 10 rfl (Or.inl nk_law_trips)) (add (v 7 rfl (Or.inl nk_law_half)) ci)) (call c_choose hr tk nk_law_choose (by decide) (ra_cons (mul ci (v 7 rfl (Or.inl nk_law_half))) (ra_cons (v 7 rfl (Or.inl nk_law_half)) ra_nil)))) (rw_or1 (tlt (call c_count_above hr tk nk_law_count_above (by decide) (ra_cons (mul ci (v 7 rfl (Or.inl nk_law_half))) (ra_cons (v 3 rfl (Or.inl nk_law_start)) (ra_cons (v 3 rfl (Or.inl nk_law_start)) ra_nil)))) (v 10 rfl (Or.inl nk_law_trips)))))) (s_one (s_ret cb)) s_nil)
      (s_cons (s_if (rt_w (rw_and (tgt (v 7 rfl (Or.inl nk_law_half)) ci) (rw_and1 (tne hu (call c_first_even hr tk nk_law_first_even (by decide) (ra_cons (v 7 rfl (Or.inl nk_law_half)) ra_nil)) (call c_law_low hr tk nk_law__law_low (by decide) (ra_cons (mul ci (call c_count_above hr tk nk_law_count_above (by decide) (ra_cons (sub (mul ci (v 7 rfl (Or.inl nk_law_half))) ci) (ra_cons ci (ra_cons ci ra_nil))))) (ra_cons (call c_law_two hr tk nk_law__law_two (by decide) (ra_cons (mul ci (v 7 rfl (Or.inl nk_law_half))) ra_nil)) ra_nil))))))) (s_one (s_ret cb)) s_nil)
      (s_cons (s_par (i := 11) (j := 12) rfl sc_law.nd rfl rfl (by decide) nk_law_first nk_law_other (add ci (callm c_law_draw hr tk nk_law__law_draw (by decide) (ra_cons (v 1 rfl (Or.inl nk_law_draws)) (ra_cons ci ra_nil)))) (callm c_law_draw hr tk nk_law__law_draw (by decide) (ra_cons (v 1 rfl (Or.inl nk_law_draws)) (ra_cons ci ra_nil))) rfl)
      (s_cons (s_if (rt_not (rt_val (call c_law_same hr tk nk_law__law_same (by decide) (ra_cons (call c_ahead_all hr tk nk_law_ahead_all (by decide) (ra_cons (v 11 rfl (Or.inl nk_law_first)) (ra_cons (v 12 rfl (Or.inl nk_law_other)) ra_nil))) (ra_cons (call c_law_times hr tk nk_law__law_times (by decide) (ra_cons (call c_law_low hr tk nk_law__law_low (by decide) (ra_cons (v 11 rfl (Or.inl nk_law_first)) (ra_cons (add (v 11 rfl (Or.inl nk_law_first)) (v 12 rfl (Or.inl nk_law_other))) ra_nil))) (ra_cons (call c_never_behind hr tk nk_law_never_behind (by decide) (ra_cons (sub (v 11 rfl (Or.inl nk_law_first)) ci) (ra_cons (v 12 rfl (Or.inl nk_law_other)) ra_nil))) ra_nil))) ra_nil))))) (s_one (s_ret cb)) s_nil)
      (s_cons (s_if (rt_w (rw_and (tge (v 11 rfl (Or.inl nk_law_first)) (v 12 rfl (Or.inl nk_law_other))) (rw_and1 (tne hu (call c_never_behind hr tk nk_law_never_behind (by decide) (ra_cons (v 11 rfl (Or.inl nk_law_first)) (ra_cons (v 12 rfl (Or.inl nk_law_other)) ra_nil))) (call c_law_low hr tk nk_law__law_low (by decide) (ra_cons (call c_count_above hr tk nk_law_count_above (by decide) (ra_cons (add (v 11 rfl (Or.inl nk_law_first)) (v 12 rfl (Or.inl nk_law_other))) (ra_cons ci (ra_cons (sub (v 11 rfl (Or.inl nk_law_first)) (v 12 rfl (Or.inl nk_law_other))) ra_nil)))) (ra_cons (call c_choose hr tk nk_law_choose (by decide) (ra_cons (add (v 11 rfl (Or.inl nk_law_first)) (v 12 rfl (Or.inl nk_law_other))) (ra_cons (v 12 rfl (Or.inl nk_law_other)) ra_nil))) ra_nil))))))) (s_one (s_ret cb)) s_nil)
      (s_cons (s_if (teq hu (v 12 rfl (Or.inl nk_law_other)) ci) (s_one (s_ret (eq hu (call c_ahead_all hr tk nk_law_ahead_all (by decide) (ra_cons (v 11 rfl (Or.inl nk_law_first)) (ra_cons (v 12 rfl (Or.inl nk_law_other)) ra_nil))) (r_tup (ra_cons ci (ra_cons ci ra_nil)))))) s_nil)
      (s_one (s_ret (eq hu (bf (call_min2 rfl) f_min2 T.z_min nk_law_min (by decide +kernel) (ra_cons (ix (call c_ahead_all hr tk nk_law_ahead_all (by decide) (ra_cons (v 11 rfl (Or.inl nk_law_first)) (ra_cons (v 12 rfl (Or.inl nk_law_other)) ra_nil))) ci) (ra_cons (ix (call c_ahead_all hr tk nk_law_ahead_all (by decide) (ra_cons (v 12 rfl (Or.inl nk_law_other)) (ra_cons (v 11 rfl (Or.inl nk_law_first)) ra_nil))) ci) ra_nil))) ci)))))))))))))))))))))))
theorem ok_all {P : Program} {w : World} {K : PySem.W.Frag} {mg : Str → Option Value} {base : Heap} (T : Top K mg) {f : Addr} {fd : FuncData} (Fn : Fun K "law" "law" (top 33) f fd) : FnOk P w K mg base (L2.CX P w) 10 f fd ["script"] (spF K mg F_law) := by
  have c_law_draw := ok_law_draw (P := P) (w := w) (base := base) T 
  have c_law_draws := ok_law_draws (P := P) (w := w) (base := base) T 
  have c_law_low := ok_law_low (P := P) (w := w) (base := base) T 
  have c_law_plus := ok_law_plus (P := P) (w := w) (base := base) T c_law_low
  have c_law_same : CallF P w K mg base 9 "_law_same" ["actual", "expected"] (F_law_same 8) := (ok_law_same (P := P) (w := w) (base := base) T ) 8
  have c_law_sum := ok_law_sum (P := P) (w := w) (base := base) T c_law_plus
  have c_law_times := ok_law_times (P := P) (w := w) (base := base) T c_law_low
  have c_law_two := ok_law_two (P := P) (w := w) (base := base) T 
  have c_is_whole := ok_is_whole (P := P) (w := w) (base := base) T 
  have c_divisor := ok_divisor (P := P) (w := w) (base := base) T 
  have c_low := ok_low (P := P) (w := w) (base := base) T c_divisor
  have c_ahead_all := ok_ahead_all (P := P) (w := w) (base := base) T c_is_whole c_low
  have c_choose := ok_choose (P := P) (w := w) (base := base) T 
  have c_look_at_steps := ok_look_at_steps (P := P) (w := w) (base := base) T c_is_whole
  have c_count_paths := ok_count_paths (P := P) (w := w) (base := base) T c_choose c_look_at_steps
  have c_count_above := ok_count_above (P := P) (w := w) (base := base) T c_count_paths c_is_whole
  have c_even_now := ok_even_now (P := P) (w := w) (base := base) T c_choose c_is_whole c_look_at_steps c_low
  have c_over := ok_over (P := P) (w := w) (base := base) T c_low
  have c_first_even := ok_first_even (P := P) (w := w) (base := base) T c_even_now c_is_whole c_over
  have c_highest := ok_highest (P := P) (w := w) (base := base) T c_count_paths c_look_at_steps c_low
  have c_times := ok_times (P := P) (w := w) (base := base) T c_low
  have c_last_even := ok_last_even (P := P) (w := w) (base := base) T c_even_now c_times
  have c_never_behind := ok_never_behind (P := P) (w := w) (base := base) T c_is_whole c_low
  have c_law := ok_law (P := P) (w := w) (base := base) T Fn c_law_draw c_law_draws c_law_low c_law_plus c_law_same c_law_sum c_law_times c_law_two c_ahead_all c_choose c_count_above c_count_paths c_even_now c_first_even c_highest c_last_even c_never_behind
  exact c_law
theorem top_mk {K : PySem.W.Frag} {h : Heap} {mg : Str → Option Value} (X : K.In h) (G : h.Ns mainGlobals mg)
    (z_abs : PySem.W.nsIn K mainGlobals "abs" = some none)
    (z_bool : PySem.W.nsIn K mainGlobals "bool" = some none)
    (z_int : PySem.W.nsIn K mainGlobals "int" = some none)
    (z_isinstance : PySem.W.nsIn K mainGlobals "isinstance" = some none)
    (z_len : PySem.W.nsIn K mainGlobals "len" = some none)
    (z_list : PySem.W.nsIn K mainGlobals "list" = some none)
    (z_max : PySem.W.nsIn K mainGlobals "max" = some none)
    (z_min : PySem.W.nsIn K mainGlobals "min" = some none)
    (z_range : PySem.W.nsIn K mainGlobals "range" = some none)
    (z_str : PySem.W.nsIn K mainGlobals "str" = some none)
    (z_sum : PySem.W.nsIn K mainGlobals "sum" = some none)
    (z_tuple : PySem.W.nsIn K mainGlobals "tuple" = some none)
    {t_MOST_STEPS : Tok} (c_MOST_STEPS : PySem.W.nsIn K mainGlobals "MOST_STEPS" = some (some (.int 200 t_MOST_STEPS)))
    {C_BadPlan : Addr} (xa_BadPlan : PySem.W.nsIn K mainGlobals "BadPlan" = some (some (.ref C_BadPlan))) (xx_BadPlan : PySem.W.excIn K C_BadPlan [.type "ValueError", .type "Exception", .type "BaseException", .type "object"] "ValueError.__new__" = true) (xk_BadPlan : PySem.W.keepIn K (.ref C_BadPlan) = true) (xb_BadPlan : PySem.W.subIn K (.ref C_BadPlan) (.type "BaseException") = some true) (xt_BadPlan : PySem.W.typeIn K (.ref C_BadPlan) = some (.type "type"))
    {C_BadShare : Addr} (xa_BadShare : PySem.W.nsIn K mainGlobals "BadShare" = some (some (.ref C_BadShare))) (xx_BadShare : PySem.W.excIn K C_BadShare [.type "ValueError", .type "Exception", .type "BaseException", .type "object"] "ValueError.__new__" = true) (xk_BadShare : PySem.W.keepIn K (.ref C_BadShare) = true) (xb_BadShare : PySem.W.subIn K (.ref C_BadShare) (.type "BaseException") = some true) (xt_BadShare : PySem.W.typeIn K (.ref C_BadShare) = some (.type "type"))
    {f_law_draw : Addr} {oc_law_draw kV_law_draw dc_law_draw pm_law_draw cd_law_draw ct_law_draw : Value} {od_law_draw an_law_draw : Option Addr} {sl_law_draw : Array (Option Value)} (a_law_draw : PySem.W.nsIn K mainGlobals "_law_draw" = some (some (.ref f_law_draw))) (l_law_draw : K.lookup f_law_draw = some ⟨oc_law_draw, od_law_draw, .func (PySem.W.fnOf "_law_draw" "_law_draw" (defArgs (top 24)) (defBody (top 24)) (defScope (top 24)) .none kV_law_draw dc_law_draw pm_law_draw an_law_draw cd_law_draw ct_law_draw), sl_law_draw⟩) (cc_law_draw : PySem.W.codeIn K cd_law_draw "_law_draw" = true) (k_law_draw : PySem.W.keepIn K (.ref f_law_draw) = true)
    {f_law_draws : Addr} {oc_law_draws kV_law_draws dc_law_draws pm_law_draws cd_law_draws ct_law_draws : Value} {od_law_draws an_law_draws : Option Addr} {sl_law_draws : Array (Option Value)} (a_law_draws : PySem.W.nsIn K mainGlobals "_law_draws" = some (some (.ref f_law_draws))) (l_law_draws : K.lookup f_law_draws = some ⟨oc_law_draws, od_law_draws, .func (PySem.W.fnOf "_law_draws" "_law_draws" (defArgs (top 23)) (defBody (top 23)) (defScope (top 23)) .none kV_law_draws dc_law_draws pm_law_draws an_law_draws cd_law_draws ct_law_draws), sl_law_draws⟩) (cc_law_draws : PySem.W.codeIn K cd_law_draws "_law_draws" = true) (k_law_draws : PySem.W.keepIn K (.ref f_law_draws) = true)
    {f_law_low : Addr} {oc_law_low kV_law_low dc_law_low pm_law_low cd_law_low ct_law_low : Value} {od_law_low an_law_low : Option Addr} {sl_law_low : Array (Option Value)} (a_law_low : PySem.W.nsIn K mainGlobals "_law_low" = some (some (.ref f_law_low))) (l_law_low : K.lookup f_law_low = some ⟨oc_law_low, od_law_low, .func (PySem.W.fnOf "_law_low" "_law_low" (defArgs (top 27)) (defBody (top 27)) (defScope (top 27)) .none kV_law_low dc_law_low pm_law_low an_law_low cd_law_low ct_law_low), sl_law_low⟩) (cc_law_low : PySem.W.codeIn K cd_law_low "_law_low" = true) (k_law_low : PySem.W.keepIn K (.ref f_law_low) = true)
    {f_law_plus : Addr} {oc_law_plus kV_law_plus dc_law_plus pm_law_plus cd_law_plus ct_law_plus : Value} {od_law_plus an_law_plus : Option Addr} {sl_law_plus : Array (Option Value)} (a_law_plus : PySem.W.nsIn K mainGlobals "_law_plus" = some (some (.ref f_law_plus))) (l_law_plus : K.lookup f_law_plus = some ⟨oc_law_plus, od_law_plus, .func (PySem.W.fnOf "_law_plus" "_law_plus" (defArgs (top 28)) (defBody (top 28)) (defScope (top 28)) .none kV_law_plus dc_law_plus pm_law_plus an_law_plus cd_law_plus ct_law_plus), sl_law_plus⟩) (cc_law_plus : PySem.W.codeIn K cd_law_plus "_law_plus" = true) (k_law_plus : PySem.W.keepIn K (.ref f_law_plus) = true)
    {f_law_same : Addr} {oc_law_same kV_law_same dc_law_same pm_law_same cd_law_same ct_law_same : Value} {od_law_same an_law_same : Option Addr} {sl_law_same : Array (Option Value)} (a_law_same : PySem.W.nsIn K mainGlobals "_law_same" = some (some (.ref f_law_same))) (l_law_same : K.lookup f_law_same = some ⟨oc_law_same, od_law_same, .func (PySem.W.fnOf "_law_same" "_law_same" (defArgs (top 26)) (defBody (top 26)) (defScope (top 26)) .none kV_law_same dc_law_same pm_law_same an_law_same cd_law_same ct_law_same), sl_law_same⟩) (cc_law_same : PySem.W.codeIn K cd_law_same "_law_same" = true) (k_law_same : PySem.W.keepIn K (.ref f_law_same) = true)
    {f_law_sum : Addr} {oc_law_sum kV_law_sum dc_law_sum pm_law_sum cd_law_sum ct_law_sum : Value} {od_law_sum an_law_sum : Option Addr} {sl_law_sum : Array (Option Value)} (a_law_sum : PySem.W.nsIn K mainGlobals "_law_sum" = some (some (.ref f_law_sum))) (l_law_sum : K.lookup f_law_sum = some ⟨oc_law_sum, od_law_sum, .func (PySem.W.fnOf "_law_sum" "_law_sum" (defArgs (top 30)) (defBody (top 30)) (defScope (top 30)) .none kV_law_sum dc_law_sum pm_law_sum an_law_sum cd_law_sum ct_law_sum), sl_law_sum⟩) (cc_law_sum : PySem.W.codeIn K cd_law_sum "_law_sum" = true) (k_law_sum : PySem.W.keepIn K (.ref f_law_sum) = true)
    {f_law_times : Addr} {oc_law_times kV_law_times dc_law_times pm_law_times cd_law_times ct_law_times : Value} {od_law_times an_law_times : Option Addr} {sl_law_times : Array (Option Value)} (a_law_times : PySem.W.nsIn K mainGlobals "_law_times" = some (some (.ref f_law_times))) (l_law_times : K.lookup f_law_times = some ⟨oc_law_times, od_law_times, .func (PySem.W.fnOf "_law_times" "_law_times" (defArgs (top 29)) (defBody (top 29)) (defScope (top 29)) .none kV_law_times dc_law_times pm_law_times an_law_times cd_law_times ct_law_times), sl_law_times⟩) (cc_law_times : PySem.W.codeIn K cd_law_times "_law_times" = true) (k_law_times : PySem.W.keepIn K (.ref f_law_times) = true)
    {f_law_two : Addr} {oc_law_two kV_law_two dc_law_two pm_law_two cd_law_two ct_law_two : Value} {od_law_two an_law_two : Option Addr} {sl_law_two : Array (Option Value)} (a_law_two : PySem.W.nsIn K mainGlobals "_law_two" = some (some (.ref f_law_two))) (l_law_two : K.lookup f_law_two = some ⟨oc_law_two, od_law_two, .func (PySem.W.fnOf "_law_two" "_law_two" (defArgs (top 32)) (defBody (top 32)) (defScope (top 32)) .none kV_law_two dc_law_two pm_law_two an_law_two cd_law_two ct_law_two), sl_law_two⟩) (cc_law_two : PySem.W.codeIn K cd_law_two "_law_two" = true) (k_law_two : PySem.W.keepIn K (.ref f_law_two) = true)
    {f_is_whole : Addr} {oc_is_whole kV_is_whole dc_is_whole pm_is_whole cd_is_whole ct_is_whole : Value} {od_is_whole an_is_whole : Option Addr} {sl_is_whole : Array (Option Value)} (a_is_whole : PySem.W.nsIn K mainGlobals "is_whole" = some (some (.ref f_is_whole))) (l_is_whole : K.lookup f_is_whole = some ⟨oc_is_whole, od_is_whole, .func (PySem.W.fnOf "is_whole" "is_whole" (defArgs (top 5)) (defBody (top 5)) (defScope (top 5)) .none kV_is_whole dc_is_whole pm_is_whole an_is_whole cd_is_whole ct_is_whole), sl_is_whole⟩) (cc_is_whole : PySem.W.codeIn K cd_is_whole "is_whole" = true) (k_is_whole : PySem.W.keepIn K (.ref f_is_whole) = true)
    {f_divisor : Addr} {oc_divisor kV_divisor dc_divisor pm_divisor cd_divisor ct_divisor : Value} {od_divisor an_divisor : Option Addr} {sl_divisor : Array (Option Value)} (a_divisor : PySem.W.nsIn K mainGlobals "divisor" = some (some (.ref f_divisor))) (l_divisor : K.lookup f_divisor = some ⟨oc_divisor, od_divisor, .func (PySem.W.fnOf "divisor" "divisor" (defArgs (top 6)) (defBody (top 6)) (defScope (top 6)) .none kV_divisor dc_divisor pm_divisor an_divisor cd_divisor ct_divisor), sl_divisor⟩) (cc_divisor : PySem.W.codeIn K cd_divisor "divisor" = true) (k_divisor : PySem.W.keepIn K (.ref f_divisor) = true)
    {f_low : Addr} {oc_low kV_low dc_low pm_low cd_low ct_low : Value} {od_low an_low : Option Addr} {sl_low : Array (Option Value)} (a_low : PySem.W.nsIn K mainGlobals "low" = some (some (.ref f_low))) (l_low : K.lookup f_low = some ⟨oc_low, od_low, .func (PySem.W.fnOf "low" "low" (defArgs (top 7)) (defBody (top 7)) (defScope (top 7)) .none kV_low dc_low pm_low an_low cd_low ct_low), sl_low⟩) (cc_low : PySem.W.codeIn K cd_low "low" = true) (k_low : PySem.W.keepIn K (.ref f_low) = true)
    {f_ahead_all : Addr} {oc_ahead_all kV_ahead_all dc_ahead_all pm_ahead_all cd_ahead_all ct_ahead_all : Value} {od_ahead_all an_ahead_all : Option Addr} {sl_ahead_all : Array (Option Value)} (a_ahead_all : PySem.W.nsIn K mainGlobals "ahead_all" = some (some (.ref f_ahead_all))) (l_ahead_all : K.lookup f_ahead_all = some ⟨oc_ahead_all, od_ahead_all, .func (PySem.W.fnOf "ahead_all" "ahead_all" (defArgs (top 16)) (defBody (top 16)) (defScope (top 16)) .none kV_ahead_all dc_ahead_all pm_ahead_all an_ahead_all cd_ahead_all ct_ahead_all), sl_ahead_all⟩) (cc_ahead_all : PySem.W.codeIn K cd_ahead_all "ahead_all" = true) (k_ahead_all : PySem.W.keepIn K (.ref f_ahead_all) = true)
    {f_choose : Addr} {oc_choose kV_choose dc_choose pm_choose cd_choose ct_choose : Value} {od_choose an_choose : Option Addr} {sl_choose : Array (Option Value)} (a_choose : PySem.W.nsIn K mainGlobals "choose" = some (some (.ref f_choose))) (l_choose : K.lookup f_choose = some ⟨oc_choose, od_choose, .func (PySem.W.fnOf "choose" "choose" (defArgs (top 12)) (defBody (top 12)) (defScope (top 12)) .none kV_choose dc_choose pm_choose an_choose cd_choose ct_choose), sl_choose⟩) (cc_choose : PySem.W.codeIn K cd_choose "choose" = true) (k_choose : PySem.W.keepIn K (.ref f_choose) = true)
    {f_look_at_steps : Addr} {oc_look_at_steps kV_look_at_steps dc_look_at_steps pm_look_at_steps cd_look_at_steps ct_look_at_steps : Value} {od_look_at_steps an_look_at_steps : Option Addr} {sl_look_at_steps : Array (Option Value)} (a_look_at_steps : PySem.W.nsIn K mainGlobals "look_at_steps" = some (some (.ref f_look_at_steps))) (l_look_at_steps : K.lookup f_look_at_steps = some ⟨oc_look_at_steps, od_look_at_steps, .func (PySem.W.fnOf "look_at_steps" "look_at_steps" (defArgs (top 13)) (defBody (top 13)) (defScope (top 13)) .none kV_look_at_steps dc_look_at_steps pm_look_at_steps an_look_at_steps cd_look_at_steps ct_look_at_steps), sl_look_at_steps⟩) (cc_look_at_steps : PySem.W.codeIn K cd_look_at_steps "look_at_steps" = true) (k_look_at_steps : PySem.W.keepIn K (.ref f_look_at_steps) = true)
    {f_count_paths : Addr} {oc_count_paths kV_count_paths dc_count_paths pm_count_paths cd_count_paths ct_count_paths : Value} {od_count_paths an_count_paths : Option Addr} {sl_count_paths : Array (Option Value)} (a_count_paths : PySem.W.nsIn K mainGlobals "count_paths" = some (some (.ref f_count_paths))) (l_count_paths : K.lookup f_count_paths = some ⟨oc_count_paths, od_count_paths, .func (PySem.W.fnOf "count_paths" "count_paths" (defArgs (top 14)) (defBody (top 14)) (defScope (top 14)) .none kV_count_paths dc_count_paths pm_count_paths an_count_paths cd_count_paths ct_count_paths), sl_count_paths⟩) (cc_count_paths : PySem.W.codeIn K cd_count_paths "count_paths" = true) (k_count_paths : PySem.W.keepIn K (.ref f_count_paths) = true)
    {f_count_above : Addr} {oc_count_above kV_count_above dc_count_above pm_count_above cd_count_above ct_count_above : Value} {od_count_above an_count_above : Option Addr} {sl_count_above : Array (Option Value)} (a_count_above : PySem.W.nsIn K mainGlobals "count_above" = some (some (.ref f_count_above))) (l_count_above : K.lookup f_count_above = some ⟨oc_count_above, od_count_above, .func (PySem.W.fnOf "count_above" "count_above" (defArgs (top 15)) (defBody (top 15)) (defScope (top 15)) .none kV_count_above dc_count_above pm_count_above an_count_above cd_count_above ct_count_above), sl_count_above⟩) (cc_count_above : PySem.W.codeIn K cd_count_above "count_above" = true) (k_count_above : PySem.W.keepIn K (.ref f_count_above) = true)
    {f_even_now : Addr} {oc_even_now kV_even_now dc_even_now pm_even_now cd_even_now ct_even_now : Value} {od_even_now an_even_now : Option Addr} {sl_even_now : Array (Option Value)} (a_even_now : PySem.W.nsIn K mainGlobals "even_now" = some (some (.ref f_even_now))) (l_even_now : K.lookup f_even_now = some ⟨oc_even_now, od_even_now, .func (PySem.W.fnOf "even_now" "even_now" (defArgs (top 18)) (defBody (top 18)) (defScope (top 18)) .none kV_even_now dc_even_now pm_even_now an_even_now cd_even_now ct_even_now), sl_even_now⟩) (cc_even_now : PySem.W.codeIn K cd_even_now "even_now" = true) (k_even_now : PySem.W.keepIn K (.ref f_even_now) = true)
    {f_over : Addr} {oc_over kV_over dc_over pm_over cd_over ct_over : Value} {od_over an_over : Option Addr} {sl_over : Array (Option Value)} (a_over : PySem.W.nsIn K mainGlobals "over" = some (some (.ref f_over))) (l_over : K.lookup f_over = some ⟨oc_over, od_over, .func (PySem.W.fnOf "over" "over" (defArgs (top 9)) (defBody (top 9)) (defScope (top 9)) .none kV_over dc_over pm_over an_over cd_over ct_over), sl_over⟩) (cc_over : PySem.W.codeIn K cd_over "over" = true) (k_over : PySem.W.keepIn K (.ref f_over) = true)
    {f_first_even : Addr} {oc_first_even kV_first_even dc_first_even pm_first_even cd_first_even ct_first_even : Value} {od_first_even an_first_even : Option Addr} {sl_first_even : Array (Option Value)} (a_first_even : PySem.W.nsIn K mainGlobals "first_even" = some (some (.ref f_first_even))) (l_first_even : K.lookup f_first_even = some ⟨oc_first_even, od_first_even, .func (PySem.W.fnOf "first_even" "first_even" (defArgs (top 19)) (defBody (top 19)) (defScope (top 19)) .none kV_first_even dc_first_even pm_first_even an_first_even cd_first_even ct_first_even), sl_first_even⟩) (cc_first_even : PySem.W.codeIn K cd_first_even "first_even" = true) (k_first_even : PySem.W.keepIn K (.ref f_first_even) = true)
    {f_highest : Addr} {oc_highest kV_highest dc_highest pm_highest cd_highest ct_highest : Value} {od_highest an_highest : Option Addr} {sl_highest : Array (Option Value)} (a_highest : PySem.W.nsIn K mainGlobals "highest" = some (some (.ref f_highest))) (l_highest : K.lookup f_highest = some ⟨oc_highest, od_highest, .func (PySem.W.fnOf "highest" "highest" (defArgs (top 21)) (defBody (top 21)) (defScope (top 21)) .none kV_highest dc_highest pm_highest an_highest cd_highest ct_highest), sl_highest⟩) (cc_highest : PySem.W.codeIn K cd_highest "highest" = true) (k_highest : PySem.W.keepIn K (.ref f_highest) = true)
    {f_times : Addr} {oc_times kV_times dc_times pm_times cd_times ct_times : Value} {od_times an_times : Option Addr} {sl_times : Array (Option Value)} (a_times : PySem.W.nsIn K mainGlobals "times" = some (some (.ref f_times))) (l_times : K.lookup f_times = some ⟨oc_times, od_times, .func (PySem.W.fnOf "times" "times" (defArgs (top 8)) (defBody (top 8)) (defScope (top 8)) .none kV_times dc_times pm_times an_times cd_times ct_times), sl_times⟩) (cc_times : PySem.W.codeIn K cd_times "times" = true) (k_times : PySem.W.keepIn K (.ref f_times) = true)
    {f_last_even : Addr} {oc_last_even kV_last_even dc_last_even pm_last_even cd_last_even ct_last_even : Value} {od_last_even an_last_even : Option Addr} {sl_last_even : Array (Option Value)} (a_last_even : PySem.W.nsIn K mainGlobals "last_even" = some (some (.ref f_last_even))) (l_last_even : K.lookup f_last_even = some ⟨oc_last_even, od_last_even, .func (PySem.W.fnOf "last_even" "last_even" (defArgs (top 20)) (defBody (top 20)) (defScope (top 20)) .none kV_last_even dc_last_even pm_last_even an_last_even cd_last_even ct_last_even), sl_last_even⟩) (cc_last_even : PySem.W.codeIn K cd_last_even "last_even" = true) (k_last_even : PySem.W.keepIn K (.ref f_last_even) = true)
    {f_never_behind : Addr} {oc_never_behind kV_never_behind dc_never_behind pm_never_behind cd_never_behind ct_never_behind : Value} {od_never_behind an_never_behind : Option Addr} {sl_never_behind : Array (Option Value)} (a_never_behind : PySem.W.nsIn K mainGlobals "never_behind" = some (some (.ref f_never_behind))) (l_never_behind : K.lookup f_never_behind = some ⟨oc_never_behind, od_never_behind, .func (PySem.W.fnOf "never_behind" "never_behind" (defArgs (top 17)) (defBody (top 17)) (defScope (top 17)) .none kV_never_behind dc_never_behind pm_never_behind an_never_behind cd_never_behind ct_never_behind), sl_never_behind⟩) (cc_never_behind : PySem.W.codeIn K cd_never_behind "never_behind" = true) (k_never_behind : PySem.W.keepIn K (.ref f_never_behind) = true)
    {f_law : Addr} {oc_law kV_law dc_law pm_law cd_law ct_law : Value} {od_law an_law : Option Addr} {sl_law : Array (Option Value)} (a_law : PySem.W.nsIn K mainGlobals "law" = some (some (.ref f_law))) (l_law : K.lookup f_law = some ⟨oc_law, od_law, .func (PySem.W.fnOf "law" "law" (defArgs (top 33)) (defBody (top 33)) (defScope (top 33)) .none kV_law dc_law pm_law an_law cd_law ct_law), sl_law⟩) (cc_law : PySem.W.codeIn K cd_law "law" = true) (k_law : PySem.W.keepIn K (.ref f_law) = true) : Top K mg :=
  ⟨PySem.W.mg_none_of X G z_abs,
    PySem.W.mg_none_of X G z_bool,
    PySem.W.mg_none_of X G z_int,
    PySem.W.mg_none_of X G z_isinstance,
    PySem.W.mg_none_of X G z_len,
    PySem.W.mg_none_of X G z_list,
    PySem.W.mg_none_of X G z_max,
    PySem.W.mg_none_of X G z_min,
    PySem.W.mg_none_of X G z_range,
    PySem.W.mg_none_of X G z_str,
    PySem.W.mg_none_of X G z_sum,
    PySem.W.mg_none_of X G z_tuple,
    ⟨_, PySem.W.mg_of X G c_MOST_STEPS⟩,
    ⟨C_BadPlan, PySem.W.mg_of X G xa_BadPlan, xx_BadPlan, xk_BadPlan, xb_BadPlan, xt_BadPlan⟩,
    ⟨C_BadShare, PySem.W.mg_of X G xa_BadShare, xx_BadShare, xk_BadShare, xb_BadShare, xt_BadShare⟩,
    ⟨_, _, fun_mk l_law_draw cc_law_draw k_law_draw, PySem.W.mg_of X G a_law_draw⟩,
    ⟨_, _, fun_mk l_law_draws cc_law_draws k_law_draws, PySem.W.mg_of X G a_law_draws⟩,
    ⟨_, _, fun_mk l_law_low cc_law_low k_law_low, PySem.W.mg_of X G a_law_low⟩,
    ⟨_, _, fun_mk l_law_plus cc_law_plus k_law_plus, PySem.W.mg_of X G a_law_plus⟩,
    ⟨_, _, fun_mk l_law_same cc_law_same k_law_same, PySem.W.mg_of X G a_law_same⟩,
    ⟨_, _, fun_mk l_law_sum cc_law_sum k_law_sum, PySem.W.mg_of X G a_law_sum⟩,
    ⟨_, _, fun_mk l_law_times cc_law_times k_law_times, PySem.W.mg_of X G a_law_times⟩,
    ⟨_, _, fun_mk l_law_two cc_law_two k_law_two, PySem.W.mg_of X G a_law_two⟩,
    ⟨_, _, fun_mk l_is_whole cc_is_whole k_is_whole, PySem.W.mg_of X G a_is_whole⟩,
    ⟨_, _, fun_mk l_divisor cc_divisor k_divisor, PySem.W.mg_of X G a_divisor⟩,
    ⟨_, _, fun_mk l_low cc_low k_low, PySem.W.mg_of X G a_low⟩,
    ⟨_, _, fun_mk l_ahead_all cc_ahead_all k_ahead_all, PySem.W.mg_of X G a_ahead_all⟩,
    ⟨_, _, fun_mk l_choose cc_choose k_choose, PySem.W.mg_of X G a_choose⟩,
    ⟨_, _, fun_mk l_look_at_steps cc_look_at_steps k_look_at_steps, PySem.W.mg_of X G a_look_at_steps⟩,
    ⟨_, _, fun_mk l_count_paths cc_count_paths k_count_paths, PySem.W.mg_of X G a_count_paths⟩,
    ⟨_, _, fun_mk l_count_above cc_count_above k_count_above, PySem.W.mg_of X G a_count_above⟩,
    ⟨_, _, fun_mk l_even_now cc_even_now k_even_now, PySem.W.mg_of X G a_even_now⟩,
    ⟨_, _, fun_mk l_over cc_over k_over, PySem.W.mg_of X G a_over⟩,
    ⟨_, _, fun_mk l_first_even cc_first_even k_first_even, PySem.W.mg_of X G a_first_even⟩,
    ⟨_, _, fun_mk l_highest cc_highest k_highest, PySem.W.mg_of X G a_highest⟩,
    ⟨_, _, fun_mk l_times cc_times k_times, PySem.W.mg_of X G a_times⟩,
    ⟨_, _, fun_mk l_last_even cc_last_even k_last_even, PySem.W.mg_of X G a_last_even⟩,
    ⟨_, _, fun_mk l_never_behind cc_never_behind k_never_behind, PySem.W.mg_of X G a_never_behind⟩,
    ⟨_, _, fun_mk l_law cc_law k_law, PySem.W.mg_of X G a_law⟩⟩
theorem end_mk {l : PySem.W.OpenLaw} {w : World} {K : PySem.W.Frag} {h : Heap} {mg : Str → Option Value} {fa : Addr} (X : K.In h) (G : h.Ns mainGlobals mg) (hfa : mg "law" = some (.ref fa)) (hl : ∀ ns : List Int, ns.length ≤ 63 → ∃ st, F_law [.scr ns] [] = .ok (.bl true) st)
    (z_abs : PySem.W.nsIn K mainGlobals "abs" = some none)
    (z_bool : PySem.W.nsIn K mainGlobals "bool" = some none)
    (z_int : PySem.W.nsIn K mainGlobals "int" = some none)
    (z_isinstance : PySem.W.nsIn K mainGlobals "isinstance" = some none)
    (z_len : PySem.W.nsIn K mainGlobals "len" = some none)
    (z_list : PySem.W.nsIn K mainGlobals "list" = some none)
    (z_max : PySem.W.nsIn K mainGlobals "max" = some none)
    (z_min : PySem.W.nsIn K mainGlobals "min" = some none)
    (z_range : PySem.W.nsIn K mainGlobals "range" = some none)
    (z_str : PySem.W.nsIn K mainGlobals "str" = some none)
    (z_sum : PySem.W.nsIn K mainGlobals "sum" = some none)
    (z_tuple : PySem.W.nsIn K mainGlobals "tuple" = some none)
    {t_MOST_STEPS : Tok} (c_MOST_STEPS : PySem.W.nsIn K mainGlobals "MOST_STEPS" = some (some (.int 200 t_MOST_STEPS)))
    {C_BadPlan : Addr} (xa_BadPlan : PySem.W.nsIn K mainGlobals "BadPlan" = some (some (.ref C_BadPlan))) (xx_BadPlan : PySem.W.excIn K C_BadPlan [.type "ValueError", .type "Exception", .type "BaseException", .type "object"] "ValueError.__new__" = true) (xk_BadPlan : PySem.W.keepIn K (.ref C_BadPlan) = true) (xb_BadPlan : PySem.W.subIn K (.ref C_BadPlan) (.type "BaseException") = some true) (xt_BadPlan : PySem.W.typeIn K (.ref C_BadPlan) = some (.type "type"))
    {C_BadShare : Addr} (xa_BadShare : PySem.W.nsIn K mainGlobals "BadShare" = some (some (.ref C_BadShare))) (xx_BadShare : PySem.W.excIn K C_BadShare [.type "ValueError", .type "Exception", .type "BaseException", .type "object"] "ValueError.__new__" = true) (xk_BadShare : PySem.W.keepIn K (.ref C_BadShare) = true) (xb_BadShare : PySem.W.subIn K (.ref C_BadShare) (.type "BaseException") = some true) (xt_BadShare : PySem.W.typeIn K (.ref C_BadShare) = some (.type "type"))
    {f_law_draw : Addr} {oc_law_draw kV_law_draw dc_law_draw pm_law_draw cd_law_draw ct_law_draw : Value} {od_law_draw an_law_draw : Option Addr} {sl_law_draw : Array (Option Value)} (a_law_draw : PySem.W.nsIn K mainGlobals "_law_draw" = some (some (.ref f_law_draw))) (l_law_draw : K.lookup f_law_draw = some ⟨oc_law_draw, od_law_draw, .func (PySem.W.fnOf "_law_draw" "_law_draw" (defArgs (top 24)) (defBody (top 24)) (defScope (top 24)) .none kV_law_draw dc_law_draw pm_law_draw an_law_draw cd_law_draw ct_law_draw), sl_law_draw⟩) (cc_law_draw : PySem.W.codeIn K cd_law_draw "_law_draw" = true) (k_law_draw : PySem.W.keepIn K (.ref f_law_draw) = true)
    {f_law_draws : Addr} {oc_law_draws kV_law_draws dc_law_draws pm_law_draws cd_law_draws ct_law_draws : Value} {od_law_draws an_law_draws : Option Addr} {sl_law_draws : Array (Option Value)} (a_law_draws : PySem.W.nsIn K mainGlobals "_law_draws" = some (some (.ref f_law_draws))) (l_law_draws : K.lookup f_law_draws = some ⟨oc_law_draws, od_law_draws, .func (PySem.W.fnOf "_law_draws" "_law_draws" (defArgs (top 23)) (defBody (top 23)) (defScope (top 23)) .none kV_law_draws dc_law_draws pm_law_draws an_law_draws cd_law_draws ct_law_draws), sl_law_draws⟩) (cc_law_draws : PySem.W.codeIn K cd_law_draws "_law_draws" = true) (k_law_draws : PySem.W.keepIn K (.ref f_law_draws) = true)
    {f_law_low : Addr} {oc_law_low kV_law_low dc_law_low pm_law_low cd_law_low ct_law_low : Value} {od_law_low an_law_low : Option Addr} {sl_law_low : Array (Option Value)} (a_law_low : PySem.W.nsIn K mainGlobals "_law_low" = some (some (.ref f_law_low))) (l_law_low : K.lookup f_law_low = some ⟨oc_law_low, od_law_low, .func (PySem.W.fnOf "_law_low" "_law_low" (defArgs (top 27)) (defBody (top 27)) (defScope (top 27)) .none kV_law_low dc_law_low pm_law_low an_law_low cd_law_low ct_law_low), sl_law_low⟩) (cc_law_low : PySem.W.codeIn K cd_law_low "_law_low" = true) (k_law_low : PySem.W.keepIn K (.ref f_law_low) = true)
    {f_law_plus : Addr} {oc_law_plus kV_law_plus dc_law_plus pm_law_plus cd_law_plus ct_law_plus : Value} {od_law_plus an_law_plus : Option Addr} {sl_law_plus : Array (Option Value)} (a_law_plus : PySem.W.nsIn K mainGlobals "_law_plus" = some (some (.ref f_law_plus))) (l_law_plus : K.lookup f_law_plus = some ⟨oc_law_plus, od_law_plus, .func (PySem.W.fnOf "_law_plus" "_law_plus" (defArgs (top 28)) (defBody (top 28)) (defScope (top 28)) .none kV_law_plus dc_law_plus pm_law_plus an_law_plus cd_law_plus ct_law_plus), sl_law_plus⟩) (cc_law_plus : PySem.W.codeIn K cd_law_plus "_law_plus" = true) (k_law_plus : PySem.W.keepIn K (.ref f_law_plus) = true)
    {f_law_same : Addr} {oc_law_same kV_law_same dc_law_same pm_law_same cd_law_same ct_law_same : Value} {od_law_same an_law_same : Option Addr} {sl_law_same : Array (Option Value)} (a_law_same : PySem.W.nsIn K mainGlobals "_law_same" = some (some (.ref f_law_same))) (l_law_same : K.lookup f_law_same = some ⟨oc_law_same, od_law_same, .func (PySem.W.fnOf "_law_same" "_law_same" (defArgs (top 26)) (defBody (top 26)) (defScope (top 26)) .none kV_law_same dc_law_same pm_law_same an_law_same cd_law_same ct_law_same), sl_law_same⟩) (cc_law_same : PySem.W.codeIn K cd_law_same "_law_same" = true) (k_law_same : PySem.W.keepIn K (.ref f_law_same) = true)
    {f_law_sum : Addr} {oc_law_sum kV_law_sum dc_law_sum pm_law_sum cd_law_sum ct_law_sum : Value} {od_law_sum an_law_sum : Option Addr} {sl_law_sum : Array (Option Value)} (a_law_sum : PySem.W.nsIn K mainGlobals "_law_sum" = some (some (.ref f_law_sum))) (l_law_sum : K.lookup f_law_sum = some ⟨oc_law_sum, od_law_sum, .func (PySem.W.fnOf "_law_sum" "_law_sum" (defArgs (top 30)) (defBody (top 30)) (defScope (top 30)) .none kV_law_sum dc_law_sum pm_law_sum an_law_sum cd_law_sum ct_law_sum), sl_law_sum⟩) (cc_law_sum : PySem.W.codeIn K cd_law_sum "_law_sum" = true) (k_law_sum : PySem.W.keepIn K (.ref f_law_sum) = true)
    {f_law_times : Addr} {oc_law_times kV_law_times dc_law_times pm_law_times cd_law_times ct_law_times : Value} {od_law_times an_law_times : Option Addr} {sl_law_times : Array (Option Value)} (a_law_times : PySem.W.nsIn K mainGlobals "_law_times" = some (some (.ref f_law_times))) (l_law_times : K.lookup f_law_times = some ⟨oc_law_times, od_law_times, .func (PySem.W.fnOf "_law_times" "_law_times" (defArgs (top 29)) (defBody (top 29)) (defScope (top 29)) .none kV_law_times dc_law_times pm_law_times an_law_times cd_law_times ct_law_times), sl_law_times⟩) (cc_law_times : PySem.W.codeIn K cd_law_times "_law_times" = true) (k_law_times : PySem.W.keepIn K (.ref f_law_times) = true)
    {f_law_two : Addr} {oc_law_two kV_law_two dc_law_two pm_law_two cd_law_two ct_law_two : Value} {od_law_two an_law_two : Option Addr} {sl_law_two : Array (Option Value)} (a_law_two : PySem.W.nsIn K mainGlobals "_law_two" = some (some (.ref f_law_two))) (l_law_two : K.lookup f_law_two = some ⟨oc_law_two, od_law_two, .func (PySem.W.fnOf "_law_two" "_law_two" (defArgs (top 32)) (defBody (top 32)) (defScope (top 32)) .none kV_law_two dc_law_two pm_law_two an_law_two cd_law_two ct_law_two), sl_law_two⟩) (cc_law_two : PySem.W.codeIn K cd_law_two "_law_two" = true) (k_law_two : PySem.W.keepIn K (.ref f_law_two) = true)
    {f_is_whole : Addr} {oc_is_whole kV_is_whole dc_is_whole pm_is_whole cd_is_whole ct_is_whole : Value} {od_is_whole an_is_whole : Option Addr} {sl_is_whole : Array (Option Value)} (a_is_whole : PySem.W.nsIn K mainGlobals "is_whole" = some (some (.ref f_is_whole))) (l_is_whole : K.lookup f_is_whole = some ⟨oc_is_whole, od_is_whole, .func (PySem.W.fnOf "is_whole" "is_whole" (defArgs (top 5)) (defBody (top 5)) (defScope (top 5)) .none kV_is_whole dc_is_whole pm_is_whole an_is_whole cd_is_whole ct_is_whole), sl_is_whole⟩) (cc_is_whole : PySem.W.codeIn K cd_is_whole "is_whole" = true) (k_is_whole : PySem.W.keepIn K (.ref f_is_whole) = true)
    {f_divisor : Addr} {oc_divisor kV_divisor dc_divisor pm_divisor cd_divisor ct_divisor : Value} {od_divisor an_divisor : Option Addr} {sl_divisor : Array (Option Value)} (a_divisor : PySem.W.nsIn K mainGlobals "divisor" = some (some (.ref f_divisor))) (l_divisor : K.lookup f_divisor = some ⟨oc_divisor, od_divisor, .func (PySem.W.fnOf "divisor" "divisor" (defArgs (top 6)) (defBody (top 6)) (defScope (top 6)) .none kV_divisor dc_divisor pm_divisor an_divisor cd_divisor ct_divisor), sl_divisor⟩) (cc_divisor : PySem.W.codeIn K cd_divisor "divisor" = true) (k_divisor : PySem.W.keepIn K (.ref f_divisor) = true)
    {f_low : Addr} {oc_low kV_low dc_low pm_low cd_low ct_low : Value} {od_low an_low : Option Addr} {sl_low : Array (Option Value)} (a_low : PySem.W.nsIn K mainGlobals "low" = some (some (.ref f_low))) (l_low : K.lookup f_low = some ⟨oc_low, od_low, .func (PySem.W.fnOf "low" "low" (defArgs (top 7)) (defBody (top 7)) (defScope (top 7)) .none kV_low dc_low pm_low an_low cd_low ct_low), sl_low⟩) (cc_low : PySem.W.codeIn K cd_low "low" = true) (k_low : PySem.W.keepIn K (.ref f_low) = true)
    {f_ahead_all : Addr} {oc_ahead_all kV_ahead_all dc_ahead_all pm_ahead_all cd_ahead_all ct_ahead_all : Value} {od_ahead_all an_ahead_all : Option Addr} {sl_ahead_all : Array (Option Value)} (a_ahead_all : PySem.W.nsIn K mainGlobals "ahead_all" = some (some (.ref f_ahead_all))) (l_ahead_all : K.lookup f_ahead_all = some ⟨oc_ahead_all, od_ahead_all, .func (PySem.W.fnOf "ahead_all" "ahead_all" (defArgs (top 16)) (defBody (top 16)) (defScope (top 16)) .none kV_ahead_all dc_ahead_all pm_ahead_all an_ahead_all cd_ahead_all ct_ahead_all), sl_ahead_all⟩) (cc_ahead_all : PySem.W.codeIn K cd_ahead_all "ahead_all" = true) (k_ahead_all : PySem.W.keepIn K (.ref f_ahead_all) = true)
    {f_choose : Addr} {oc_choose kV_choose dc_choose pm_choose cd_choose ct_choose : Value} {od_choose an_choose : Option Addr} {sl_choose : Array (Option Value)} (a_choose : PySem.W.nsIn K mainGlobals "choose" = some (some (.ref f_choose))) (l_choose : K.lookup f_choose = some ⟨oc_choose, od_choose, .func (PySem.W.fnOf "choose" "choose" (defArgs (top 12)) (defBody (top 12)) (defScope (top 12)) .none kV_choose dc_choose pm_choose an_choose cd_choose ct_choose), sl_choose⟩) (cc_choose : PySem.W.codeIn K cd_choose "choose" = true) (k_choose : PySem.W.keepIn K (.ref f_choose) = true)
    {f_look_at_steps : Addr} {oc_look_at_steps kV_look_at_steps dc_look_at_steps pm_look_at_steps cd_look_at_steps ct_look_at_steps : Value} {od_look_at_steps an_look_at_steps : Option Addr} {sl_look_at_steps : Array (Option Value)} (a_look_at_steps : PySem.W.nsIn K mainGlobals "look_at_steps" = some (some (.ref f_look_at_steps))) (l_look_at_steps : K.lookup f_look_at_steps = some ⟨oc_look_at_steps, od_look_at_steps, .func (PySem.W.fnOf "look_at_steps" "look_at_steps" (defArgs (top 13)) (defBody (top 13)) (defScope (top 13)) .none kV_look_at_steps dc_look_at_steps pm_look_at_steps an_look_at_steps cd_look_at_steps ct_look_at_steps), sl_look_at_steps⟩) (cc_look_at_steps : PySem.W.codeIn K cd_look_at_steps "look_at_steps" = true) (k_look_at_steps : PySem.W.keepIn K (.ref f_look_at_steps) = true)
    {f_count_paths : Addr} {oc_count_paths kV_count_paths dc_count_paths pm_count_paths cd_count_paths ct_count_paths : Value} {od_count_paths an_count_paths : Option Addr} {sl_count_paths : Array (Option Value)} (a_count_paths : PySem.W.nsIn K mainGlobals "count_paths" = some (some (.ref f_count_paths))) (l_count_paths : K.lookup f_count_paths = some ⟨oc_count_paths, od_count_paths, .func (PySem.W.fnOf "count_paths" "count_paths" (defArgs (top 14)) (defBody (top 14)) (defScope (top 14)) .none kV_count_paths dc_count_paths pm_count_paths an_count_paths cd_count_paths ct_count_paths), sl_count_paths⟩) (cc_count_paths : PySem.W.codeIn K cd_count_paths "count_paths" = true) (k_count_paths : PySem.W.keepIn K (.ref f_count_paths) = true)
    {f_count_above : Addr} {oc_count_above kV_count_above dc_count_above pm_count_above cd_count_above ct_count_above : Value} {od_count_above an_count_above : Option Addr} {sl_count_above : Array (Option Value)} (a_count_above : PySem.W.nsIn K mainGlobals "count_above" = some (some (.ref f_count_above))) (l_count_above : K.lookup f_count_above = some ⟨oc_count_above, od_count_above, .func (PySem.W.fnOf "count_above" "count_above" (defArgs (top 15)) (defBody (top 15)) (defScope (top 15)) .none kV_count_above dc_count_above pm_count_above an_count_above cd_count_above ct_count_above), sl_count_above⟩) (cc_count_above : PySem.W.codeIn K cd_count_above "count_above" = true) (k_count_above : PySem.W.keepIn K (.ref f_count_above) = true)
    {f_even_now : Addr} {oc_even_now kV_even_now dc_even_now pm_even_now cd_even_now ct_even_now : Value} {od_even_now an_even_now : Option Addr} {sl_even_now : Array (Option Value)} (a_even_now : PySem.W.nsIn K mainGlobals "even_now" = some (some (.ref f_even_now))) (l_even_now : K.lookup f_even_now = some ⟨oc_even_now, od_even_now, .func (PySem.W.fnOf "even_now" "even_now" (defArgs (top 18)) (defBody (top 18)) (defScope (top 18)) .none kV_even_now dc_even_now pm_even_now an_even_now cd_even_now ct_even_now), sl_even_now⟩) (cc_even_now : PySem.W.codeIn K cd_even_now "even_now" = true) (k_even_now : PySem.W.keepIn K (.ref f_even_now) = true)
    {f_over : Addr} {oc_over kV_over dc_over pm_over cd_over ct_over : Value} {od_over an_over : Option Addr} {sl_over : Array (Option Value)} (a_over : PySem.W.nsIn K mainGlobals "over" = some (some (.ref f_over))) (l_over : K.lookup f_over = some ⟨oc_over, od_over, .func (PySem.W.fnOf "over" "over" (defArgs (top 9)) (defBody (top 9)) (defScope (top 9)) .none kV_over dc_over pm_over an_over cd_over ct_over), sl_over⟩) (cc_over : PySem.W.codeIn K cd_over "over" = true) (k_over : PySem.W.keepIn K (.ref f_over) = true)
    {f_first_even : Addr} {oc_first_even kV_first_even dc_first_even pm_first_even cd_first_even ct_first_even : Value} {od_first_even an_first_even : Option Addr} {sl_first_even : Array (Option Value)} (a_first_even : PySem.W.nsIn K mainGlobals "first_even" = some (some (.ref f_first_even))) (l_first_even : K.lookup f_first_even = some ⟨oc_first_even, od_first_even, .func (PySem.W.fnOf "first_even" "first_even" (defArgs (top 19)) (defBody (top 19)) (defScope (top 19)) .none kV_first_even dc_first_even pm_first_even an_first_even cd_first_even ct_first_even), sl_first_even⟩) (cc_first_even : PySem.W.codeIn K cd_first_even "first_even" = true) (k_first_even : PySem.W.keepIn K (.ref f_first_even) = true)
    {f_highest : Addr} {oc_highest kV_highest dc_highest pm_highest cd_highest ct_highest : Value} {od_highest an_highest : Option Addr} {sl_highest : Array (Option Value)} (a_highest : PySem.W.nsIn K mainGlobals "highest" = some (some (.ref f_highest))) (l_highest : K.lookup f_highest = some ⟨oc_highest, od_highest, .func (PySem.W.fnOf "highest" "highest" (defArgs (top 21)) (defBody (top 21)) (defScope (top 21)) .none kV_highest dc_highest pm_highest an_highest cd_highest ct_highest), sl_highest⟩) (cc_highest : PySem.W.codeIn K cd_highest "highest" = true) (k_highest : PySem.W.keepIn K (.ref f_highest) = true)
    {f_times : Addr} {oc_times kV_times dc_times pm_times cd_times ct_times : Value} {od_times an_times : Option Addr} {sl_times : Array (Option Value)} (a_times : PySem.W.nsIn K mainGlobals "times" = some (some (.ref f_times))) (l_times : K.lookup f_times = some ⟨oc_times, od_times, .func (PySem.W.fnOf "times" "times" (defArgs (top 8)) (defBody (top 8)) (defScope (top 8)) .none kV_times dc_times pm_times an_times cd_times ct_times), sl_times⟩) (cc_times : PySem.W.codeIn K cd_times "times" = true) (k_times : PySem.W.keepIn K (.ref f_times) = true)
    {f_last_even : Addr} {oc_last_even kV_last_even dc_last_even pm_last_even cd_last_even ct_last_even : Value} {od_last_even an_last_even : Option Addr} {sl_last_even : Array (Option Value)} (a_last_even : PySem.W.nsIn K mainGlobals "last_even" = some (some (.ref f_last_even))) (l_last_even : K.lookup f_last_even = some ⟨oc_last_even, od_last_even, .func (PySem.W.fnOf "last_even" "last_even" (defArgs (top 20)) (defBody (top 20)) (defScope (top 20)) .none kV_last_even dc_last_even pm_last_even an_last_even cd_last_even ct_last_even), sl_last_even⟩) (cc_last_even : PySem.W.codeIn K cd_last_even "last_even" = true) (k_last_even : PySem.W.keepIn K (.ref f_last_even) = true)
    {f_never_behind : Addr} {oc_never_behind kV_never_behind dc_never_behind pm_never_behind cd_never_behind ct_never_behind : Value} {od_never_behind an_never_behind : Option Addr} {sl_never_behind : Array (Option Value)} (a_never_behind : PySem.W.nsIn K mainGlobals "never_behind" = some (some (.ref f_never_behind))) (l_never_behind : K.lookup f_never_behind = some ⟨oc_never_behind, od_never_behind, .func (PySem.W.fnOf "never_behind" "never_behind" (defArgs (top 17)) (defBody (top 17)) (defScope (top 17)) .none kV_never_behind dc_never_behind pm_never_behind an_never_behind cd_never_behind ct_never_behind), sl_never_behind⟩) (cc_never_behind : PySem.W.codeIn K cd_never_behind "never_behind" = true) (k_never_behind : PySem.W.keepIn K (.ref f_never_behind) = true)
    {f_law : Addr} {oc_law kV_law dc_law pm_law cd_law ct_law : Value} {od_law an_law : Option Addr} {sl_law : Array (Option Value)} (a_law : PySem.W.nsIn K mainGlobals "law" = some (some (.ref f_law))) (l_law : K.lookup f_law = some ⟨oc_law, od_law, .func (PySem.W.fnOf "law" "law" (defArgs (top 33)) (defBody (top 33)) (defScope (top 33)) .none kV_law dc_law pm_law an_law cd_law ct_law), sl_law⟩) (cc_law : PySem.W.codeIn K cd_law "law" = true) (k_law : PySem.W.keepIn K (.ref f_law) = true) :
    ∃ fd : FuncData, (∀ (s : Shared) (v : Value), BindsTo s fd ⟨[v], []⟩ [("script", v)]) ∧ ∀ base : Heap, K.In base → base.Ns mainGlobals mg → FnOk l.prog w K mg base (L2.CX l.prog w) 10 fa fd ["script"] (spLaw K) := by
  have T : Top K mg := top_mk X G z_abs z_bool z_int z_isinstance z_len z_list z_max z_min z_range z_str z_sum z_tuple c_MOST_STEPS xa_BadPlan xx_BadPlan xk_BadPlan xb_BadPlan xt_BadPlan xa_BadShare xx_BadShare xk_BadShare xb_BadShare xt_BadShare a_law_draw l_law_draw cc_law_draw k_law_draw a_law_draws l_law_draws cc_law_draws k_law_draws a_law_low l_law_low cc_law_low k_law_low a_law_plus l_law_plus cc_law_plus k_law_plus a_law_same l_law_same cc_law_same k_law_same a_law_sum l_law_sum cc_law_sum k_law_sum a_law_times l_law_times cc_law_times k_law_times a_law_two l_law_two cc_law_two k_law_two a_is_whole l_is_whole cc_is_whole k_is_whole a_divisor l_divisor cc_divisor k_divisor a_low l_low cc_low k_low a_ahead_all l_ahead_all cc_ahead_all k_ahead_all a_choose l_choose cc_choose k_choose a_look_at_steps l_look_at_steps cc_look_at_steps k_look_at_steps a_count_paths l_count_paths cc_count_paths k_count_paths a_count_above l_count_above cc_count_above k_count_above a_even_now l_even_now cc_even_now k_even_now a_over l_over cc_over k_over a_first_even l_first_even cc_first_even k_first_even a_highest l_highest cc_highest k_highest a_times l_times cc_times k_times a_last_even l_last_even cc_last_even k_last_even a_never_behind l_never_behind cc_never_behind k_never_behind a_law l_law cc_law k_law
  obtain ⟨f, fd, Fn, hm⟩ := T.d_law
  cases hfa.symm.trans hm
  exact ⟨fd, law_fd Fn (fun _ _ _ _ _ _ _ => rfl), fun base _ _ => law_end (ok_all T Fn) hl⟩
end K51
namespace K51
open PySem L2 L4
theorem divisor_eq (a b : Int) (st : Sto) : F_divisor [.int a, .int b] st = .ok (.int (Nat.gcd a.natAbs b.natAbs : Nat)) st := by
  have h := while_gcd (c := e2 gtD (eV 1) (eC (.int 0))) (body := sPar 0 1 (eV 1) (e2 modD (eV 0) (eV 1))) (i := 0) (j := 1) (by decide) st (MA := max a.natAbs b.natAbs) (MB := b.natAbs) (by omega) (fun ρ y h => by simp [h]) (fun ρ x y h1 h2 hy _ _ => by
    have : ¬ (y = 0) := by omega
    simp [h1, h2, this]) b.natAbs a.natAbs (b.natAbs + 1) [some (.int (a.natAbs : Int)), some (.int (b.natAbs : Int))] (by omega) (by omega) (by omega) rfl rfl
  simp [F_divisor, g_divisor, sWhileM, muI, h]
/-- shares -/
abbrev shN (p : Nat × Nat) : D := .tup [.int p.1, .int p.2]
def lowN (a b : Nat) : Nat × Nat := (a / Nat.gcd a b, b / Nat.gcd a b)
theorem gcd_ne {a b : Nat} (hb : 0 < b) : ¬ Nat.gcd a b = 0 := fun h => by rw [Nat.gcd_eq_zero_iff] at h; omega
theorem gcd_log {a b : Nat} (hb : 0 < b) (hs : b < 2 ^ 8000) : (Nat.gcd a b).log2 < 9000 := log_lt (Nat.lt_of_le_of_lt (Nat.gcd_le_right a hb) (Nat.lt_of_lt_of_le hs (Nat.pow_le_pow_right (by decide) (by decide)))) (by decide)
theorem low_eq (a b : Nat) (hb : 0 < b) (hs : b < 2 ^ 8000) (st : Sto) : F_low [.int a, .int b] st = .ok (shN (lowN a b)) st := by
  have hg := gcd_ne (a := a) hb
  have hl := gcd_log (a := a) hb hs
  have hb0 : ¬ (b = 0) := by omega
  have hpos : (0 : Int) < b := by omega
  simp [F_low, g_low, divisor_eq, hb0, hb, hg, hl, lowN]

theorem lawlow_eq (a b : Nat) (hb : 0 < b) (hs : b < 2 ^ 8000) (ha : a < 2 ^ 8000) (st : Sto) : F_law_low [.int a, .int b] st = .ok (shN (lowN a b)) st := by
  have hg := gcd_ne (a := a) hb
  have hl := gcd_log (a := a) hb hs
  have hb0 : ¬ (b = 0) := by omega
  have h := while_gcd (c := e2 gtD (eV 3) (eC (.int 0))) (body := sPar 2 3 (eV 3) (e2 subD (eV 2) (e2 mulD (e2 fdivD (eV 2) (eV 3)) (eV 3)))) (i := 2) (j := 3) (by decide) st (MA := max a b) (MB := b) (by omega) (fun ρ y h => by simp [h]) (fun ρ x y h1 h2 hy hx hyM => by
    have h0 : ¬ (y = 0) := by omega
    have hy2 : y < 2 ^ 8000 := by omega
    have hx2 : x < 2 ^ 8000 := by omega
    have hl : y.log2 < 9000 := log_lt (pow_lt' 9000 hy2 (by decide)) (by decide)
    have hq : ((x : Int) / (y : Int)) = ((x / y : Nat) : Int) := rfl
    have hm : (x / y).log2 < 9000 := log_lt (pow_lt' 9000 (Nat.lt_of_le_of_lt (Nat.div_le_self x y) hx2) (by decide)) (by decide)
    have hs : (x / y).log2 + y.log2 < 100000000 := by omega
    have he : (x : Int) - ((x / y : Nat) : Int) * (y : Int) = ((x % y : Nat) : Int) := by
      have := Nat.div_add_mod x y
      have e2 : ((y * (x / y) + x % y : Nat) : Int) = (x : Int) := congrArg _ this
      rw [Int.natCast_add, Int.natCast_mul, Int.mul_comm] at e2
      omega
    simp [h1, h2, h0, hl, hq, hs, he, -Int.natCast_ediv, -Int.natCast_emod]) b a (b + 1) [some (.int a), some (.int b), some (.int a), some (.int b), none] (by omega) (by omega) (by omega) rfl rfl
  have la : a.log2 < 9000 := log_lt (pow_lt' 9000 ha (by decide)) (by decide)
  have lb : b.log2 < 9000 := log_lt (pow_lt' 9000 hs (by decide)) (by decide)
  have h1 : Nat.log2 1 = 0 := by decide
  have s1 : a.log2 < 100000000 := by omega
  have s2 : b.log2 < 100000000 := by omega
  simp [F_law_low, g_law_low, sWhileM, muI, h, hb, hg, hl, lowN, h1, s1, s2]
end K51
set_option exponentiation.threshold 10000
namespace K51
open PySem L2 L4
def chooseGo (m : Nat) : Nat → Nat → Nat → Nat
  | 0, _, f => f
  | n + 1, lo, f => chooseGo m n (lo + 1) (f * (m + lo) / lo)
def chooseN (many some : Nat) : Nat := if some ≤ many then chooseGo (many - some) some 1 1 else 0
theorem choose_go (m k : Nat) (st : Sto) : ∀ (n lo f : Nat) (x : Option D), 0 < lo → m + lo + n ≤ 1000 → f < 2 ^ (10 * lo) → ∃ x', sForGo (bName 3) (sSet 2 (e2 fdivD (e2 mulD (eV 2) (e2 addD (e2 subD (eV 0) (eV 1)) (eV 3))) (eV 3))) (rgD lo n) [some (.int (m + k : Nat)), some (.int k), some (.int f), x] st
    = .nx [some (.int (m + k : Nat)), some (.int k), some (.int (chooseGo m n lo f : Nat)), x'] st := fun n => by
  induction n with
  | zero => exact fun lo f x _ _ _ => ⟨x, rfl⟩
  | succ n ih =>
    intro lo f x hlo hs hf
    have h0 : ¬ lo = 0 := by omega
    have e1 : ((m + k : Nat) : Int) - (k : Int) + (lo : Int) = ((m + lo : Nat) : Int) := by omega
    have l1 : f.log2 < 20000 := log_lt (pow_lt' 20000 hf (by omega)) (by decide)
    have l2 : (m + lo).log2 < 20 := log_lt (pow_lt' (b := 10) 20 (by omega) (by decide)) (by decide)
    have l3 : lo.log2 < 20 := log_lt (pow_lt' (b := 10) 20 (by omega) (by decide)) (by decide)
    have l4 : f.log2 + (m + lo).log2 < 100000000 := by omega
    have l5 : lo.log2 < 9000 := by omega
    have e2 : ((f : Int) * ((m + lo : Nat) : Int)) = ((f * (m + lo) : Nat) : Int) := by rw [Int.natCast_mul]
    have hf2 : f * (m + lo) / lo < 2 ^ (10 * (lo + 1)) := by
      refine Nat.lt_of_le_of_lt (Nat.div_le_self _ _) ?_
      have : m + lo ≤ 2 ^ 10 := by omega
      have h3 : f * (m + lo) < 2 ^ (10 * lo) * 2 ^ 10 := by
        refine Nat.lt_of_le_of_lt (Nat.mul_le_mul_left f this) ?_
        exact Nat.mul_lt_mul_of_pos_right hf (by decide)
      rw [← Nat.pow_add] at h3
      exact h3
    obtain ⟨x', h⟩ := ih (lo + 1) (f * (m + lo) / lo) (some (.int lo)) (by omega) (by omega) hf2
    refine ⟨x', ?_⟩
    rw [rgD_succ, forGo_cons (ρ1 := [some (.int (m + k : Nat)), some (.int k), some (.int f), some (.int lo)]) rfl (ρ2 := [some (.int (m + k : Nat)), some (.int k), some (.int (f * (m + lo) / lo : Nat)), some (.int lo)]) (st2 := st) ?_]
    · exact h
    · simp only [x_set, x_2, x_V, List.getElem?_cons_succ, List.getElem?_cons_zero, y_bn, y_bn', z_sub, y_of, z_add, e1, z_mul, Int.natAbs_natCast, l4, if_true, e2, z_fdiv, fdiv_nat, y_st, List.set_cons_succ, List.set_cons_zero]
      simp [h0, l5, -Int.natCast_ediv]
theorem choose_eq (many : Nat) (some_ : Int) (hm : many ≤ 400) (st : Sto) : F_choose [.int many, .int some_] st = .ok (.int (if 0 ≤ some_ then chooseN many some_.toNat else 0 : Nat)) st := by
  by_cases h0 : 0 ≤ some_
  · obtain ⟨k, rfl⟩ := Int.eq_ofNat_of_zero_le h0
    rw [if_pos h0]
    unfold chooseN
    by_cases hk : k ≤ many
    · obtain ⟨x', h⟩ := choose_go (many - k) k st k 1 1 none (by decide) (by omega) (by decide)
      rw [show many - k + k = many by omega] at h
      have h2 : ((k : Int) + 1 - 1).toNat = k := by omega
      have h3 : rgOk ((k : Int) + 1) = true := rgOk_succ (by omega)
      have h : sForGo (bName 3) (sSet 2 (e2 fdivD (e2 mulD (eV 2) (e2 addD (e2 subD (eV 0) (eV 1)) (eV 3))) (eV 3))) (rgD 1 k) [some (.int many), some (.int k), some (.int 1), none] st = _ := h
      simp -implicitDefEqProofs [F_choose, g_choose, hk, h2, h3, h]
    · simp -implicitDefEqProofs [F_choose, g_choose, hk]
  · simp -implicitDefEqProofs [F_choose, g_choose, h0]
end K51
namespace K51
open PySem L2 L4
theorem whole_eq (x : Int) (st : Sto) : F_is_whole [.int x] st = .ok (.bl true) st := by
  simp -implicitDefEqProofs [F_is_whole, g_is_whole]
theorem look_eq (s : Nat) (h : s ≤ 200) (st : Sto) : F_look_at_steps [.int s] st = .ok .non st := by
  have h1 : (s : Int) ≤ 200 := by omega
  simp -implicitDefEqProofs [F_look_at_steps, g_look_at_steps, whole_eq, h1]
def chooseI (many : Nat) (k : Int) : Nat := if 0 ≤ k then chooseN many k.toNat else 0
theorem choose_eq' (many : Nat) (k : Int) (hm : many ≤ 400) (st : Sto) : F_choose [.int many, .int k] st = .ok (.int (chooseI many k : Nat)) st := choose_eq many k hm st
def cpN (s : Nat) (e : Int) : Nat := if ((s : Int) + e).fmod 2 = 1 ∨ s < e.natAbs then 0 else chooseI s (((s : Int) + e).fdiv 2)
theorem log2_2 : Nat.log2 2 < 9000 := by decide
theorem paths_eq (s : Nat) (e : Int) (h : s ≤ 200) (st : Sto) : F_count_paths [.int s, .int e] st = .ok (.int (cpN s e : Nat)) st := by
  unfold cpN
  by_cases h1 : ((s : Int) + e).fmod 2 = 1
  · simp -implicitDefEqProofs [F_count_paths, g_count_paths, look_eq s h, h1]
  · by_cases h2 : s < e.natAbs
    · simp -implicitDefEqProofs [F_count_paths, g_count_paths, look_eq s h, h1, h2]
    · simp -implicitDefEqProofs [F_count_paths, g_count_paths, look_eq s h, h1, h2, log2_2, choose_eq' s _ (show s ≤ 400 by omega)]
def caI (s a b : Nat) : Int := cpN s ((b : Int) - a) - cpN s (-(b : Int) - 2 - a)
theorem above_eq (s a b : Nat) (h : s ≤ 200) (st : Sto) : F_count_above [.int s, .int a, .int b] st = .ok (.int (caI s a b)) st := by
  unfold caI
  have h1 : ¬ ((a : Int) < 0) := by omega
  have h2 : ¬ ((b : Int) < 0) := by omega
  simp -implicitDefEqProofs [F_count_above, g_count_above, whole_eq, paths_eq s _ h, h1, h2]
/-! shares -/
theorem mul_log {a b : Nat} (ha : a < 2 ^ 8000) (hb : b < 2 ^ 8000) : a.log2 + b.log2 < 100000000 := by
  have := log_lt ha (by decide)
  have := log_lt hb (by decide)
  omega
def timesN (x y : Nat × Nat) : Nat × Nat := lowN (x.1 * y.1) (x.2 * y.2)
def overN (x y : Nat × Nat) : Nat × Nat := lowN (x.1 * y.2) (x.2 * y.1)
def plusN (x y : Nat × Nat) : Nat × Nat := lowN (x.1 * y.2 + y.1 * x.2) (x.2 * y.2)
/-- a share that is not too long -/
def sz (k : Nat) (x : Nat × Nat) : Prop := x.1 < 2 ^ k ∧ 0 < x.2 ∧ x.2 < 2 ^ k
instance (k : Nat) (x : Nat × Nat) : Decidable (sz k x) := by unfold sz; exact inferInstance
theorem mul_lt {a b i j k : Nat} (ha : a < 2 ^ i) (hb : b < 2 ^ j) (h : i + j ≤ k) : a * b < 2 ^ k := by
  have h1 : a * b < 2 ^ i * 2 ^ j := by
    rcases Nat.eq_zero_or_pos b with rfl | h0
    · rw [Nat.mul_zero]; exact Nat.mul_pos (Nat.pow_pos (by decide)) (Nat.pow_pos (by decide))
    · exact Nat.lt_of_lt_of_le (Nat.mul_lt_mul_of_pos_right ha h0) (Nat.mul_le_mul_left _ (Nat.le_of_lt hb))
  rw [← Nat.pow_add] at h1
  exact pow_lt' _ h1 h
theorem le8 {k : Nat} (h : k ≤ 4000) {a : Nat} (ha : a < 2 ^ k) : a < 2 ^ 8000 := pow_lt' _ ha (by omega)
theorem times_eq (x y : Nat × Nat) (hx : sz 3000 x) (hy : sz 3000 y) (st : Sto) : F_times [shN x, shN y] st = .ok (shN (timesN x y)) st := by
  obtain ⟨a, b⟩ := x; obtain ⟨c, d⟩ := y
  obtain ⟨h1, h2, h3⟩ := hx; obtain ⟨k1, k2, k3⟩ := hy
  have m1 := mul_log (le8 (by decide) h1) (le8 (by decide) k1)
  have m2 := mul_log (le8 (by decide) h3) (le8 (by decide) k3)
  have e1 : (a : Int) * (c : Int) = ((a * c : Nat) : Int) := by rw [Int.natCast_mul]
  have e2 : (b : Int) * (d : Int) = ((b * d : Nat) : Int) := by rw [Int.natCast_mul]
  have L := low_eq (a * c) (b * d) (Nat.mul_pos h2 k2) (mul_lt h3 k3 (by decide)) []
  simp -implicitDefEqProofs [F_times, g_times, m1, m2, e1, e2, L, timesN, -Int.natCast_mul]
theorem over_eq (x y : Nat × Nat) (hx : sz 3000 x) (hy : sz 3000 y) (hp : 0 < y.1) (st : Sto) : F_over [shN x, shN y] st = .ok (shN (overN x y)) st := by
  obtain ⟨a, b⟩ := x; obtain ⟨c, d⟩ := y
  obtain ⟨h1, h2, h3⟩ := hx; obtain ⟨k1, k2, k3⟩ := hy
  have m1 := mul_log (le8 (by decide) h1) (le8 (by decide) k3)
  have m2 := mul_log (le8 (by decide) h3) (le8 (by decide) k1)
  have e1 : (a : Int) * (d : Int) = ((a * d : Nat) : Int) := by rw [Int.natCast_mul]
  have e2 : (b : Int) * (c : Int) = ((b * c : Nat) : Int) := by rw [Int.natCast_mul]
  have L := low_eq (a * d) (b * c) (Nat.mul_pos h2 hp) (mul_lt h3 k1 (by decide)) []
  simp -implicitDefEqProofs [F_over, g_over, m1, m2, e1, e2, L, overN, -Int.natCast_mul]
theorem ltimes_eq (x y : Nat × Nat) (hx : sz 3000 x) (hy : sz 3000 y) (st : Sto) : F_law_times [shN x, shN y] st = .ok (shN (timesN x y)) st := by
  obtain ⟨a, b⟩ := x; obtain ⟨c, d⟩ := y
  obtain ⟨h1, h2, h3⟩ := hx; obtain ⟨k1, k2, k3⟩ := hy
  have m1 := mul_log (le8 (by decide) h1) (le8 (by decide) k1)
  have m2 := mul_log (le8 (by decide) h3) (le8 (by decide) k3)
  have e1 : (a : Int) * (c : Int) = ((a * c : Nat) : Int) := by rw [Int.natCast_mul]
  have e2 : (b : Int) * (d : Int) = ((b * d : Nat) : Int) := by rw [Int.natCast_mul]
  have L := lawlow_eq (a * c) (b * d) (Nat.mul_pos h2 k2) (mul_lt h3 k3 (by decide)) (mul_lt h1 k1 (by decide)) []
  simp -implicitDefEqProofs [F_law_times, g_law_times, m1, m2, e1, e2, L, timesN, -Int.natCast_mul]
theorem lplus_eq (x y : Nat × Nat) (hx : sz 3000 x) (hy : sz 3000 y) (st : Sto) : F_law_plus [shN x, shN y] st = .ok (shN (plusN x y)) st := by
  obtain ⟨a, b⟩ := x; obtain ⟨c, d⟩ := y
  obtain ⟨h1, h2, h3⟩ := hx; obtain ⟨k1, k2, k3⟩ := hy
  have m1 := mul_log (le8 (by decide) h1) (le8 (by decide) k3)
  have m2 := mul_log (le8 (by decide) k1) (le8 (by decide) h3)
  have m3 := mul_log (le8 (by decide) h3) (le8 (by decide) k3)
  have e1 : (a : Int) * (d : Int) = ((a * d : Nat) : Int) := by rw [Int.natCast_mul]
  have e2 : (c : Int) * (b : Int) = ((c * b : Nat) : Int) := by rw [Int.natCast_mul]
  have e3 : (b : Int) * (d : Int) = ((b * d : Nat) : Int) := by rw [Int.natCast_mul]
  have e4 : ((a * d : Nat) : Int) + ((c * b : Nat) : Int) = ((a * d + c * b : Nat) : Int) := by rw [Int.natCast_add]
  have q1 : a * d < 2 ^ 6000 := mul_lt h1 k3 (by decide)
  have q2 : c * b < 2 ^ 6000 := mul_lt k1 h3 (by decide)
  have q3 : a * d + c * b < 2 ^ 8000 := Nat.lt_of_lt_of_le (show a * d + c * b < 2 ^ 6000 * 2 by omega) (by decide +kernel)
  have L := lawlow_eq (a * d + c * b) (b * d) (Nat.mul_pos h2 k2) (mul_lt h3 k3 (by decide)) q3 []
  simp -implicitDefEqProofs [F_law_plus, g_law_plus, m1, m2, m3, e1, e2, e3, e4, L, plusN, -Int.natCast_mul, -Int.natCast_add]
/-- a sum of shares; none if one of them gets too long -/
def sumGo : Nat × Nat → List (Nat × Nat) → Option (Nat × Nat)
  | x, [] => some x
  | x, y :: ys => if sz 3000 x ∧ sz 3000 y then sumGo (plusN x y) ys else none
theorem lsum_go : ∀ (ys : List (Nat × Nat)) (x z : Nat × Nat) (a b : Option D) (st : Sto), sumGo x ys = some z → ∃ b', sForGo (bName 2) (sSet 1 (eCall F_law_plus (aCons (eV 1) (aCons (eV 2) aNil)))) (ys.map shN) [a, some (shN x), b] st = .nx [a, some (shN z), b'] st := fun ys => by
  induction ys with
  | nil => intro x z a b st h; cases h; exact ⟨b, rfl⟩
  | cons y ys ih =>
    intro x z a b st h
    unfold sumGo at h
    split at h
    · rename_i hs
      obtain ⟨b', h'⟩ := ih _ _ a (some (shN y)) st h
      refine ⟨b', ?_⟩
      rw [List.map_cons, forGo_cons (ρ1 := [a, some (shN x), some (shN y)]) rfl (ρ2 := [a, some (shN (plusN x y)), some (shN y)]) (st2 := st) ?_]
      · exact h'
      · have L := lplus_eq x y hs.1 hs.2 []
        simp -implicitDefEqProofs [L]
    · cases h
theorem lsum_eq_t (ys : List (Nat × Nat)) (z : Nat × Nat) (st : Sto) (h : sumGo (0, 1) ys = some z) : F_law_sum [.tup (ys.map shN)] st = .ok (shN z) st := by
  obtain ⟨b', e⟩ := lsum_go ys _ _ (some (.tup (ys.map shN))) none st h
  refine fn_rt rfl ?_
  show g_law_sum [some (.tup (ys.map shN)), none, none] st = _
  have e : sForGo (bName 2) (sSet 1 (eCall F_law_plus (aCons (eV 1) (aCons (eV 2) aNil)))) (ys.map shN) [some (.tup (ys.map shN)), some (.tup [.int 0, .int 1]), none] st = _ := e
  simp -implicitDefEqProofs [g_law_sum, e]
theorem lsum_eq_l (ys : List (Nat × Nat)) (z : Nat × Nat) (st : Sto) (h : sumGo (0, 1) ys = some z) : F_law_sum [.lst (ys.map shN)] st = .ok (shN z) st := by
  obtain ⟨b', e⟩ := lsum_go ys _ _ (some (.lst (ys.map shN))) none st h
  refine fn_rt rfl ?_
  show g_law_sum [some (.lst (ys.map shN)), none, none] st = _
  have e : sForGo (bName 2) (sSet 1 (eCall F_law_plus (aCons (eV 1) (aCons (eV 2) aNil)))) (ys.map shN) [some (.lst (ys.map shN)), some (.tup [.int 0, .int 1]), none] st = _ := e
  simp -implicitDefEqProofs [g_law_sum, e]
end K51
namespace K51
open PySem L2 L4
theorem two_go (a : Option D) (st : Sto) : ∀ (n m : Nat) (lo : Int) (b : Option D), m + n ≤ 1000 → ∃ b', sForGo (bName 2) (sSet 1 (e2 mulD (eC (.int 2)) (eV 1))) (rgD lo n) [a, some (.int (2 ^ m : Nat)), b] st = .nx [a, some (.int (2 ^ (m + n) : Nat)), b'] st := fun n => by
  induction n with
  | zero => exact fun m lo b _ => ⟨b, rfl⟩
  | succ n ih =>
    intro m lo b h
    obtain ⟨b', e⟩ := ih (m + 1) (lo + 1) (some (.int lo)) (by omega)
    refine ⟨b', ?_⟩
    rw [show m + (n + 1) = m + 1 + n by omega, rgD_succ, forGo_cons (ρ1 := [a, some (.int (2 ^ m : Nat)), some (.int lo)]) rfl (ρ2 := [a, some (.int (2 ^ (m + 1) : Nat)), some (.int lo)]) (st2 := st) ?_]
    · exact e
    · have l : (2 ^ m).log2 < 2000 := log_lt (Nat.pow_lt_pow_right (by decide) (by omega)) (by decide)
      have l2 : (2 : Int).natAbs.log2 + (2 ^ m).log2 < 100000000 := by
        have : (2 : Int).natAbs.log2 = 1 := by decide
        omega
      have e2 : (2 : Int) * ((2 ^ m : Nat) : Int) = ((2 ^ (m + 1) : Nat) : Int) := by rw [Nat.pow_succ, Int.natCast_mul, Int.mul_comm]; rfl
      simp -implicitDefEqProofs only [x_set, x_2, x_V, x_C, List.getElem?_cons_zero, List.getElem?_cons_succ, y_bn, y_bn', z_mul, Int.natAbs_natCast, if_pos l2, y_of, y_st, List.set_cons_succ, List.set_cons_zero, e2]
theorem two_eq (n : Nat) (h : n ≤ 900) (st : Sto) : F_law_two [.int n] st = .ok (.int (2 ^ n : Nat)) st := by
  obtain ⟨b', e⟩ := two_go (some (.int n)) st n 0 0 none (by omega)
  have e : sForGo (bName 2) (sSet 1 (e2 mulD (eC (.int 2)) (eV 1))) (rgD 0 n) [some (.int n), some (.int 1), none] st = _ := e
  have h1 : rgOk (n : Int) = true := rgOk_nat (by omega)
  simp -implicitDefEqProofs [F_law_two, g_law_two, h1, e]
def maxN (a b : Nat) : (max 0 ((a : Int) - b)) = ((a - b : Nat) : Int) := by omega
theorem ahead_eq (f o : Nat) (h : 0 < f + o) (hs : f + o < 2 ^ 8000) (st : Sto) : F_ahead_all [.int f, .int o] st = .ok (shN (lowN (f - o) (f + o))) st := by
  have h1 : ¬ ((f : Int) < 0) := by omega
  have h2 : ¬ ((o : Int) < 0) := by omega
  have h3 : ¬ ((f : Int) + o = 0) := by omega
  have e : (f : Int) + o = ((f + o : Nat) : Int) := by omega
  have L := low_eq (f - o) (f + o) h hs []
  rw [e] at h3
  have h4 : (decide (f = 0) && decide (o = 0)) = false := by rw [Bool.and_eq_false_iff, decide_eq_false_iff_not, decide_eq_false_iff_not]; omega
  simp -implicitDefEqProofs [F_ahead_all, g_ahead_all, whole_eq, h1, h2, h3, h4, e, L, maxN, -Int.natCast_add]
theorem never_eq (f o : Nat) (hs : f + 1 < 2 ^ 8000) (st : Sto) : F_never_behind [.int f, .int o] st = .ok (shN (lowN (f + 1 - o) (f + 1))) st := by
  have h1 : ¬ ((f : Int) < 0) := by omega
  have h2 : ¬ ((o : Int) < 0) := by omega
  have e : (f : Int) + 1 = ((f + 1 : Nat) : Int) := by omega
  have L := low_eq (f + 1 - o) (f + 1) (by omega) hs []
  simp -implicitDefEqProofs [F_never_behind, g_never_behind, whole_eq, h1, h2, e, L, maxN, -Int.natCast_add]
def evenN (h : Nat) : Nat × Nat := lowN (chooseI (2 * h) h) (2 ^ (2 * h))
theorem shl_eq (n : Nat) (h : n ≤ 900) (st : Sto) : shlD (.int 1) (.int n) st = some (.int (2 ^ n : Nat)) := by
  have : (0 : Int) ≤ n ∧ (n : Int) ≤ 1000000 ∧ (1 : Int).natAbs < 18446744073709551616 := ⟨by omega, by omega, by decide⟩
  rw [z_shl, if_pos this, Int.one_mul]
  simp
theorem even_eq (h : Nat) (hs : h ≤ 100) (st : Sto) : F_even_now [.int h] st = .ok (shN (evenN h)) st := by
  have e : (2 : Int) * h = ((2 * h : Nat) : Int) := by omega
  have m : (2 : Int).natAbs.log2 + h.log2 < 100000000 := by
    have h1 : (2 : Int).natAbs.log2 = 1 := by decide
    have h2 : h.log2 < 10 := log_lt (pow_lt' 10 (b := 7) (by omega) (by decide)) (by decide)
    omega
  have L := low_eq (chooseI (2 * h) h) (2 ^ (2 * h)) (Nat.pow_pos (by decide)) (Nat.pow_lt_pow_right (by decide) (by omega)) []
  have C := choose_eq' (2 * h) h (show 2 * h ≤ 400 by omega) []
  have K := look_eq (2 * h) (by omega) []
  simp -implicitDefEqProofs only [z_mul, Int.natAbs_natCast, if_pos m, F_even_now, g_even_now, x_mkF, List.length_cons, List.length_nil, if_true, List.map_cons, List.map_nil, x_seq, x_drop, x_call, x_cons, x_nil, x_ifE, x_V, x_C, x_2, y_bn, y_bn', List.cons_append, List.nil_append, List.getElem?_cons_zero, y_ac, y_ac', y_cl, x_callP, List.all_cons, List.all_nil, z_nri, z_nrb, z_nrn, Bool.and_self, whole_eq, y_clP, y_ift, y_of, e, K, y_dr, y_thn, x_ret, C, shl_eq (2 * h) (by omega)]
  simp -implicitDefEqProofs [L, evenN, -Int.natCast_mul, -Int.natCast_pow]
def firstN (h : Nat) : Nat × Nat := overN (evenN h) (2 * h - 1, 1)
theorem first_eq (h : Nat) (h0 : 0 < h) (hs : h ≤ 100) (hz : sz 3000 (evenN h)) (st : Sto) : F_first_even [.int h] st = .ok (shN (firstN h)) st := by
  have e : (2 : Int) * h - 1 = ((2 * h - 1 : Nat) : Int) := by omega
  have m : (2 : Int).natAbs.log2 + h.log2 < 100000000 := by
    have h1 : (2 : Int).natAbs.log2 = 1 := by decide
    have h2 : h.log2 < 10 := log_lt (pow_lt' 10 (b := 7) (by omega) (by decide)) (by decide)
    omega
  have n1 : ¬ ((h : Int) < 1) := by omega
  have m' : Nat.log2 2 + h.log2 < 100000000 := m
  have O : F_over [shN (evenN h), .tup [.int ((2 * h - 1 : Nat) : Int), .int 1]] [] = .ok (shN (overN (evenN h) (2 * h - 1, 1))) [] := over_eq (evenN h) (2 * h - 1, 1) hz ⟨pow_lt' 3000 (b := 8) (by show 2 * h - 1 < 2 ^ 8; omega) (by decide), show 0 < 1 by decide, show 1 < 2 ^ 3000 by decide +kernel⟩ (by show 0 < 2 * h - 1; omega) []
  have E := even_eq h hs []
  simp -implicitDefEqProofs only [z_mul, Int.natAbs_natCast, if_pos m, if_pos m', F_first_even, g_first_even, x_mkF, List.length_cons, List.length_nil, if_true, List.map_cons, List.map_nil, x_seq, x_ifS, x_or, x_not, x_call, x_cons, x_nil, x_V, x_C, x_2, y_bn, y_bn', List.cons_append, List.nil_append, List.getElem?_cons_zero, y_ac, y_ac', y_cl, x_callP, List.all_cons, List.all_nil, z_nri, z_nrb, z_nrn, Bool.and_self, whole_eq, y_clP, y_ift, y_not, Bool.not_true, y_iff, z_lt, decide_eq_false n1, y_ifsf, y_of, z_sub, e, x_nx, y_thn, x_ret, E, x_tup, y_tp]
  simp -implicitDefEqProofs [O, firstN, m', e, -Int.natCast_mul]
end K51
namespace K51
open PySem L2 L4
/-! the rows -/
def hiN (s e : Nat) : Nat × Nat := lowN (cpN s e + cpN s ((e : Int) + 1)) (2 ^ s)
theorem hi_one (s e : Nat) (hs : s ≤ 200) (st : Sto) (acc : List D) (hl : acc.length ≤ 1000000) (h0 : st[0]? = some (.lst acc)) :
    (sDrop (eMet "list" appD (eV 1) (aCons (eCall F_low (aCons (e2 addD (eCall F_count_paths (aCons (eV 0) (aCons (eV 2) aNil))) (eCall F_count_paths (aCons (eV 0) (aCons (e2 addD (eV 2) (eC (.int 1))) aNil)))) (aCons (e2 shlD (eC (.int 1)) (eV 0)) aNil))) aNil))) [some (.int s), some (.ref 0), some (.int e)] st
      = .nx [some (.int s), some (.ref 0), some (.int e)] (st.set 0 (.lst (acc ++ [shN (hiN s e)]))) := by
  have a := paths_eq s e hs []
  have b := paths_eq s ((e : Int) + 1) hs []
  have L := low_eq (cpN s e + cpN s ((e : Int) + 1)) (2 ^ s) (Nat.pow_pos (by decide)) (Nat.pow_lt_pow_right (by decide) (by omega)) []
  have e1 : ((cpN s e : Nat) : Int) + ((cpN s ((e : Int) + 1) : Nat) : Int) = ((cpN s e + cpN s ((e : Int) + 1) : Nat) : Int) := by omega
  simp -implicitDefEqProofs only [x_drop, x_met, x_V, List.getElem?_cons_zero, List.getElem?_cons_succ, y_me1 (rec_lst h0), x_cons, x_nil, x_call, x_2, x_C, y_bn, y_bn', y_of, y_ac, y_ac', y_cl, x_callP, List.all_cons, List.all_nil, z_nri, Bool.and_self, if_true, a, b, y_clP, z_add, e1, shl_eq s (show s ≤ 900 by omega), L, z_nrt, y_me2, app_lst h0 hl, y_of2, y_dr, hiN]
theorem hi_go (s : Nat) (hs : s ≤ 200) : ∀ (n lo : Nat) (acc : List D) (b : Option D), acc.length + n ≤ 1000000 → ∃ b', sForGo (bName 2) (sDrop (eMet "list" appD (eV 1) (aCons (eCall F_low (aCons (e2 addD (eCall F_count_paths (aCons (eV 0) (aCons (eV 2) aNil))) (eCall F_count_paths (aCons (eV 0) (aCons (e2 addD (eV 2) (eC (.int 1))) aNil)))) (aCons (e2 shlD (eC (.int 1)) (eV 0)) aNil))) aNil))) (rgD lo n) [some (.int s), some (.ref 0), b] [.lst acc]
    = .nx [some (.int s), some (.ref 0), b'] [.lst (acc ++ (List.range' lo n).map fun e => shN (hiN s e))] := fun n => by
  induction n with
  | zero => exact fun lo acc b _ => ⟨b, by simp [rgD]⟩
  | succ n ih =>
    intro lo acc b hl
    obtain ⟨b', e⟩ := ih (lo + 1) (acc ++ [shN (hiN s lo)]) (some (.int lo)) (by rw [List.length_append]; simp; omega)
    refine ⟨b', ?_⟩
    rw [rgD_succ, forGo_cons (ρ1 := [some (.int s), some (.ref 0), some (.int lo)]) rfl (hi_one s lo hs [.lst acc] acc (by omega) rfl)]
    rw [List.range'_succ, List.map_cons, ← List.append_cons] at *
    exact e
theorem high_eq (s : Nat) (hs : s ≤ 200) (st : Sto) : F_highest [.int s] [] = .ok (.tup ((List.range' 0 (s + 1)).map fun e => shN (hiN s e))) [.lst ((List.range' 0 (s + 1)).map fun e => shN (hiN s e))] := by
  obtain ⟨b', e⟩ := hi_go s hs (s + 1) 0 [] none (by rw [List.length_nil]; omega)
  refine fn_rt rfl ?_
  show g_highest [some (.int s), none, none] [] = _
  have h1 : rgOk ((s : Int) + 1) = true := rgOk_succ (by omega)
  have h2 : ((s : Int) + 1).toNat = s + 1 := by omega
  have e : sForGo (bName 2) (sDrop (eMet "list" appD (eV 1) (aCons (eCall F_low (aCons (e2 addD (eCall F_count_paths (aCons (eV 0) (aCons (eV 2) aNil))) (eCall F_count_paths (aCons (eV 0) (aCons (e2 addD (eV 2) (eC (.int 1))) aNil)))) (aCons (e2 shlD (eC (.int 1)) (eV 0)) aNil))) aNil))) (rgD 0 (s + 1)) [some (.int s), some (.ref 0), none] [.lst []] = _ := e
  have K := look_eq s hs []
  have T (ds : List D) (st : Sto) (h : st[0]? = some (.lst ds)) : g0 tupleD [.ref 0] st = some (.tup ds, st) := by simp only [g0, tupleD, L4.listOf, h]
  have T := T ((List.range' 0 (s + 1)).map fun e => shN (hiN s e)) [.lst ((List.range' 0 (s + 1)).map fun e => shN (hiN s e))] rfl
  unfold g_highest
  simp -implicitDefEqProofs only [x_seq, x_drop, x_call, x_cons, x_nil, x_V, List.getElem?_cons_zero, List.getElem?_cons_succ, y_ac, y_ac', y_cl, x_callP, List.all_cons, List.all_nil, z_nri, z_nrn, Bool.and_self, if_true, K, y_clP, y_dr, y_thn, x_set, x_lstM, y_lpM, Nat.zero_le, List.length_nil, List.nil_append, y_st, List.set_cons_succ, List.set_cons_zero, x_for, x_rg1, x_2, y_bn, y_bn', x_C, z_add, y_of, y_rg1, h1, h2, y_fr, e, x_ret, x_N, y_nN, T, y_of2, y_rt]
def lastN (h i : Nat) : Nat × Nat := timesN (evenN i) (evenN (h - i))
theorem last_eq (h : Nat) (hs : h ≤ 100) (hz : ∀ i, i ≤ h → sz 3000 (evenN i)) (st : Sto) : F_last_even [.int h] st = .ok (.tup ((List.range (h + 1)).map fun i => shN (lastN h i))) st := by
  refine fn_rt rfl ?_
  show g_last_even [some (.int h), none] st = _
  have h1 : rgOk ((h : Int) + 1) = true := rgOk_succ (by omega)
  have h2 : ((h : Int) + 1).toNat = h + 1 := by omega
  have M := lc_map (b := bName 1) (t := eC (.bl true)) (f := eCall F_times (aCons (eCall F_even_now (aCons (eV 1) aNil)) (aCons (eCall F_even_now (aCons (e2 subD (eV 0) (eV 1)) aNil)) aNil))) (ρ0 := [some (.int h), none]) (fin := finL) (st := st) (fun (i : Nat) => .int ((0 : Int) + i)) (fun i => shN (lastN h i)) (List.range (h + 1)) [] (fun i hi => by
    have hi : i ≤ h := by have := List.mem_range.mp hi; omega
    refine ⟨[some (.int h), some (.int i)], by rw [Int.zero_add]; rfl, rfl, ?_⟩
    have a := even_eq i (by omega) []
    have b := even_eq (h - i) (by omega) []
    have e : (h : Int) - i = ((h - i : Nat) : Int) := by omega
    have t := times_eq (evenN i) (evenN (h - i)) (hz i hi) (hz _ (by omega)) []
    simp -implicitDefEqProofs only [x_call, x_cons, x_nil, x_V, x_2, y_bn, y_bn', z_sub, y_of, e, List.getElem?_cons_zero, List.getElem?_cons_succ, y_ac, y_ac', y_cl, x_callP, List.all_cons, List.all_nil, z_nri, z_nrt, Bool.and_self, if_true, a, b, t, y_clP, lastN])
  rw [← rgD_map] at M
  unfold g_last_even
  simp -implicitDefEqProofs only [x_ret, x_N, x_cons, x_nil, x_lc, x_rg1, x_2, x_V, x_C, List.getElem?_cons_zero, List.getElem?_cons_succ, y_bn, y_bn', z_add, y_of, y_rg1, h1, h2, if_true, y_lc, lenOk_rg (show h + 1 ≤ 1000000 by omega), wipeD, List.set_cons_succ, List.set_cons_zero, M, finL, List.reverse_nil, List.nil_append, y_ac, y_ac', y_nN, z_tupl, y_of2, y_rt]
/-! sameness of the same -/
theorem same_int (n : Nat) (a : Int) (st : Sto) : F_law_same (n + 1) [.int a, .int a] st = .ok (.bl true) st := by
  refine fn_rt rfl ?_
  show g_law_same (F_law_same n) [some (.int a), some (.int a), none] st = _
  unfold g_law_same
  simp -implicitDefEqProofs
theorem same_sh (n : Nat) (x : Nat × Nat) (st : Sto) : F_law_same (n + 2) [shN x, shN x] st = .ok (.bl true) st := by
  obtain ⟨a, b⟩ := x
  refine fn_rt rfl ?_
  show g_law_same (F_law_same (n + 1)) [some (shN (a, b)), some (shN (a, b)), none] st = _
  have s1 := same_int n (a : Int) []
  have s2 := same_int n (b : Int) []
  have r : rgD 0 2 = [0, 1].map fun (i : Int) => D.int i := rfl
  have M := lc_none (b := bName 2) (t := eNot (eCall (F_law_same (n + 1)) (aCons (e2 ixD (eV 0) (eV 2)) (aCons (e2 ixD (eV 1) (eV 2)) aNil)))) (f := eV 2) (ρ0 := [some (shN (a, b)), some (shN (a, b)), none]) (fin := finL) (st := st) (fun (i : Int) => D.int i) [0, 1] [] (fun i hi => by
    refine ⟨[some (shN (a, b)), some (shN (a, b)), some (.int i)], rfl, ?_⟩
    have : i = 0 ∨ i = 1 := by simpa using hi
    rcases this with rfl | rfl
    · simp -implicitDefEqProofs [s1]
    · simp -implicitDefEqProofs [s2])
  rw [← r] at M
  have r2 : rgOk ((2 : Nat) : Int) = true := rgOk_2
  have r3 : lenOk (rgD 0 2).length = true := lenOk_rg (by omega)
  unfold g_law_same
  simp -implicitDefEqProofs [M, r2, r3, wipeD, finL]
end K51
namespace K51
theorem FB : ∀ s, s < 60 → ((List.range (s + 1)).map fun e => caI s 0 e).sum = chooseI s ((s : Int).fdiv 2) := by decide +kernel
theorem FC : ∀ s, s < 60 → ((List.range (2 * s + 1)).map fun (e : Nat) => (cpN s (0 - s + e) : Int)).sum = (2 ^ s : Nat) := by decide +kernel
theorem chooseB : ∀ s, s < 60 → chooseI s ((s : Int).fdiv 2) < 2 ^ 100 := by decide +kernel
theorem FC2 : ∀ s, s < 60 → ∀ b : Nat, b < 12 → cpN s b = cpN s (0 - b) := by decide +kernel
theorem FD : ∀ s, s < 60 → sumGo (0, 1) ((List.range' 0 (s + 1)).map (hiN s)) = some (1, 1) := by decide +kernel
theorem FD2 : ∀ s, s < 60 → hiN s 0 = lowN (chooseI s ((s : Int).fdiv 2)) (2 ^ s) := by decide +kernel
theorem FE : ∀ h, h < 31 → sumGo (0, 1) ((List.range (h + 1)).map (lastN h)) = some (1, 1) := by decide +kernel
theorem FE2 : ∀ h, h < 31 → ((List.range (h + 1)).map (lastN h)).reverse = (List.range (h + 1)).map (lastN h) := by decide +kernel
theorem FE3 : ∀ h, h < 31 → lastN h 0 = evenN h := by decide +kernel
theorem FE4 : ∀ h, h < 31 → sz 3000 (evenN h) := by decide +kernel
def ff (h : Nat) : Option (Nat × Nat) := sumGo (0, 1) ((List.range h).map fun i => firstN (1 + i))
def ffB (h : Nat) : Bool := match ff h with
  | some z => decide (sz 3000 z) && decide (plusN z (evenN h) = (1, 1))
  | none => false
theorem FF0 : ∀ h, h < 31 → ffB h = true := by decide +kernel
theorem FF (h : Nat) (hh : h < 31) : ∃ z, ff h = some z ∧ sz 3000 z ∧ plusN z (evenN h) = (1, 1) := by
  have := FF0 h hh
  unfold ffB at this
  split at this
  · rename_i z e
    rw [Bool.and_eq_true] at this
    exact ⟨z, e, of_decide_eq_true this.1, of_decide_eq_true this.2⟩
  · cases this
theorem FG : ∀ h, h < 31 → caI (2 * h) 0 0 * (h + 1) = chooseI (2 * h) h := by decide +kernel
theorem FG2 : ∀ h, h < 31 → ∀ a, a < 8 → caI (2 * h) 0 0 ≤ caI (2 * h) a a := by decide +kernel
theorem FG3 : ∀ h, h < 31 → (caI (2 * h) 0 0).natAbs < 2 ^ 100 := by decide +kernel
theorem FH3 : ∀ h, h < 31 → 0 < h → 2 * (caI (2 * h - 2) 0 0).toNat < 2 ^ 100 ∧ (caI (2 * h - 2) 0 0).natAbs < 2 ^ 100 := by decide +kernel
theorem FI2 : ∀ f, f < 30 → ∀ o, o < 30 → sz 3000 (lowN (f + 1) (f + 1 + o)) ∧ sz 3000 (lowN (f + 1 - o) (f + 1)) := by decide +kernel
theorem FH : ∀ h, h < 31 → 0 < h → firstN h = lowN (2 * (caI (2 * h - 2) 0 0).toNat) (2 ^ (2 * h)) := by decide +kernel
theorem FH2 : ∀ h, h < 31 → 0 < h → ((caI (2 * h - 2) 0 0).toNat : Int) = caI (2 * h - 2) 0 0 := by decide +kernel
theorem FI : ∀ f, f < 30 → ∀ o, o < 30 → lowN (f + 1 - o) (f + 1 + o) = timesN (lowN (f + 1) (f + 1 + o)) (lowN (f + 1 - o) (f + 1)) := by decide +kernel
theorem FJ : ∀ f, f < 30 → ∀ o, o < 30 → o ≤ f + 1 → lowN (f + 1 + 1 - o) (f + 1 + 1) = lowN (caI (f + 1 + o) 0 (f + 1 - o)).toNat (chooseI (f + 1 + o) o) ∧ ((caI (f + 1 + o) 0 (f + 1 - o)).toNat : Int) = caI (f + 1 + o) 0 (f + 1 - o) ∧ 0 < chooseI (f + 1 + o) o ∧ chooseI (f + 1 + o) o < 2 ^ 100 ∧ (caI (f + 1 + o) 0 (f + 1 - o)).toNat < 2 ^ 100 := by decide +kernel
theorem FK : ∀ f, f < 30 → lowN (f + 1 - 0) (f + 1 + 0) = (1, 1) := by decide +kernel
theorem FL : ∀ f, f < 30 → ∀ o, o < 30 → min (lowN (f + 1 - o) (f + 1 + o)).1 (lowN (o - (f + 1)) (o + (f + 1))).1 = 0 := by decide +kernel
theorem FA : ∀ s, s < 60 → ∀ a, a < 8 → ∀ b, b < 12 → caI (s + 1) a b = (if 0 < b then caI s a (b - 1) else 0) + caI s a (b + 1) := by decide +kernel
end K51
namespace K51
open PySem L2 L4
theorem seq_nx {a b : S} {ρ ρ1 : Rho} {st st1 : Sto} {r : RS} (h1 : a ρ st = .nx ρ1 st1) (h2 : b ρ1 st1 = r) : sSeq a b ρ st = r := by
  rw [x_seq, h1, y_thn, h2]
theorem tp2 {x y : D} {st : Sto} : tp (.ok [x, y] st) = .ok (.tup [x, y]) st := by
  rw [y_tp, if_pos (show [x, y].length ≤ 1000000 by show 2 ≤ 1000000; omega)]
theorem tp3 {x y z : D} {st : Sto} : tp (.ok [x, y, z] st) = .ok (.tup [x, y, z]) st := by
  rw [y_tp, if_pos (show [x, y, z].length ≤ 1000000 by show 3 ≤ 1000000; omega)]
theorem fd2 {i : Int} {st : Sto} : fdivD (.int i) (.int 2) st = some (.int (i.fdiv 2)) := by
  rw [z_fdiv, if_pos (by decide)]
theorem mu2 {i : Nat} (h : i < 2 ^ 100) {st : Sto} : mulD (.int 2) (.int i) st = some (.int (2 * i : Nat)) := by
  have h1 : (2 : Int).natAbs.log2 = 1 := by decide
  have h2 : i.log2 < 100 := log_lt h (by decide)
  rw [z_mul, Int.natAbs_natCast, if_pos (by omega), Int.natCast_mul]
  rfl
theorem nr_shs {α : Type} (f : α → Nat × Nat) (ys : List α) : (ys.map fun y => shN (f y)).all (nr 11) = true := by
  rw [List.all_eq_true]
  intro d hd
  obtain ⟨y, _, rfl⟩ := List.mem_map.mp hd
  rfl
theorem shp_shs {α : Type} (f : α → Nat × Nat) (ys : List α) : shp 8 (.tup (ys.map fun y => shN (f y))) = true := by
  show List.all _ _ = true
  rw [List.all_eq_true]
  intro d hd
  obtain ⟨y, _, rfl⟩ := List.mem_map.mp hd
  rfl
theorem shp_sh (x : Nat × Nat) : shp 8 (shN x) = true := rfl
theorem nr_sh (x : Nat × Nat) : nr 12 (shN x) = true := rfl
theorem draw_f : F_law_draw = drawF := rfl
theorem draws_f : F_law_draws = drawsF := rfl
theorem rgOk_neg {n : Nat} (h : n ≤ 1000000) : rgOk ((0 : Int) - n) = true := rgOk_of (by omega) (by omega)
theorem plain (ns : List Int) (_ : ns.length ≤ 63) : ∃ st, F_law [.scr ns] [] = .ok (.bl true) st := by
  obtain ⟨M0, d0, g0⟩ := drawsN ns []
  obtain ⟨s, M1, d1, hs, g1⟩ := drawM g0 (st := [M0]) (k := 0) rfl 60 (by decide) (by decide)
  obtain ⟨a, M2, d2, ha, g2⟩ := drawM g1 (st := [M1]) (k := 0) rfl 8 (by decide) (by decide)
  obtain ⟨b, M3, d3, hb, g3⟩ := drawM g2 (st := [M2]) (k := 0) rfl 12 (by decide) (by decide)
  obtain ⟨h, M4, d4, hh, g4⟩ := drawM g3 (st := [M3]) (k := 0) rfl 31 (by decide) (by decide)
  obtain ⟨f, M5, d5, hf, g5⟩ := drawM g4 (st := [M4]) (k := 0) rfl 30 (by decide) (by decide)
  obtain ⟨o, M6, d6, ho, g6⟩ := drawM g5 (st := [M5]) (k := 0) rfl 30 (by decide) (by decide)
  replace hs : s < 60 := by omega
  replace ha : a < 8 := by omega
  replace hb : b < 12 := by omega
  replace hh : h < 31 := by omega
  replace hf : f < 30 := by omega
  replace ho : o < 30 := by omega
  rw [← draw_f] at d1 d2 d3 d4 d5 d6
  rw [← draws_f] at d0
  replace d1 : callM F_law_draw [.ref 0, .int 60] [M0] = .ok (.int s) [M1] := d1
  replace d2 : callM F_law_draw [.ref 0, .int 8] [M1] = .ok (.int a) [M2] := d2
  replace d3 : callM F_law_draw [.ref 0, .int 12] [M2] = .ok (.int b) [M3] := d3
  replace d4 : callM F_law_draw [.ref 0, .int 31] [M3] = .ok (.int h) [M4] := d4
  replace d5 : callM F_law_draw [.ref 0, .int 30] [M4] = .ok (.int f) [M5] := d5
  replace d6 : callM F_law_draw [.ref 0, .int 30] [M5] = .ok (.int o) [M6] := d6
  replace d0 : callN F_law_draws [.scr ns] [] = .ok (.ref 0) [M0] := d0
  obtain ⟨z, fz, zs, zp⟩ := FF h hh
  refine ⟨[M6], fn_rt rfl ?_⟩
  show g_law [some (.scr ns), none, none, none, none, none, none, none, none, none, none, none, none, none] [] = _
  unfold g_law
  refine seq_nx (ρ1 := [some (.scr ns), some (.ref 0), none, none, none, none, none, none, none, none, none, none, none, none]) (st1 := [M0]) ?_ ?_
  · simp -implicitDefEqProofs only [x_set, x_asg, x_call, x_callM, x_callN, x_cons, x_nil, x_V, x_C, x_1, x_2, x_N, x_tup, x_lc, x_rg1, x_rg2, x_ifE, x_ifS, x_and, x_or, x_not, x_ret, x_par, x_drop, x_nx, x_callP, List.getElem?_cons_zero, List.getElem?_cons_succ, List.set_cons_succ, List.set_cons_zero, y_bn, y_bn', y_un, y_of, y_of2, y_nN, y_ac, y_ac', tp2, tp3, y_ift, y_iff, y_not, y_cl, y_clM, y_clN, y_clP, y_st, y_rt, y_dr, y_ifst, y_ifsf, y_pr, y_pr', y_asg, y_rg1, y_rg2, y_rg2', y_lc, z_add, z_sub, z_lt, z_le, z_gt, z_ge, z_eq, z_ne, z_nri, z_nrb, z_nrn, z_nrt, z_lent, z_lenl, z_min, z_ixt, z_revt, List.all_cons, List.all_nil, Bool.and_self, if_true, decide_true, Bool.not_true, Bool.not_false, wipeD, finL, rgOk_0, rgOk_1, and_true, List.reverse_nil, List.nil_append, and_self, d0]
  refine seq_nx (ρ1 := [some (.scr ns), some (.ref 0), some (.int s), some (.int a), some (.int b), none, none, none, none, none, none, none, none, none]) (st1 := [M3]) ?_ ?_
  · simp -implicitDefEqProofs only [x_set, x_asg, x_call, x_callM, x_callN, x_cons, x_nil, x_V, x_C, x_1, x_2, x_N, x_tup, x_lc, x_rg1, x_rg2, x_ifE, x_ifS, x_and, x_or, x_not, x_ret, x_par, x_drop, x_nx, x_callP, List.getElem?_cons_zero, List.getElem?_cons_succ, List.set_cons_succ, List.set_cons_zero, y_bn, y_bn', y_un, y_of, y_of2, y_nN, y_ac, y_ac', tp2, tp3, y_ift, y_iff, y_not, y_cl, y_clM, y_clN, y_clP, y_st, y_rt, y_dr, y_ifst, y_ifsf, y_pr, y_pr', y_asg, y_rg1, y_rg2, y_rg2', y_lc, z_add, z_sub, z_lt, z_le, z_gt, z_ge, z_eq, z_ne, z_nri, z_nrb, z_nrn, z_nrt, z_lent, z_lenl, z_min, z_ixt, z_revt, List.all_cons, List.all_nil, Bool.and_self, if_true, decide_true, Bool.not_true, Bool.not_false, wipeD, finL, rgOk_0, rgOk_1, and_true, List.reverse_nil, List.nil_append, and_self, d1, d2, d3, List.length_cons, List.length_nil]; rfl
  have sb : (0 : Int) < b → (b : Int) - 1 = ((b - 1 : Nat) : Int) := by omega
  refine seq_nx (ρ1 := [some (.scr ns), some (.ref 0), some (.int s), some (.int a), some (.int b), some (.int (if 0 < b then caI s a (b - 1) else 0)), none, none, none, none, none, none, none, none]) (st1 := [M3]) ?_ ?_
  · by_cases hb0 : 0 < b
    · have hb1 : decide ((0 : Int) < b) = true := decide_eq_true (by omega)
      have e := sb (by omega)
      have cz := above_eq s a (b - 1) (by omega) []
      simp -implicitDefEqProofs only [hb1, if_pos hb0, x_set, x_asg, x_call, x_callM, x_callN, x_cons, x_nil, x_V, x_C, x_1, x_2, x_N, x_tup, x_lc, x_rg1, x_rg2, x_ifE, x_ifS, x_and, x_or, x_not, x_ret, x_par, x_drop, x_nx, x_callP, List.getElem?_cons_zero, List.getElem?_cons_succ, List.set_cons_succ, List.set_cons_zero, y_bn, y_bn', y_un, y_of, y_of2, y_nN, y_ac, y_ac', tp2, tp3, y_ift, y_iff, y_not, y_cl, y_clM, y_clN, y_clP, y_st, y_rt, y_dr, y_ifst, y_ifsf, y_pr, y_pr', y_asg, y_rg1, y_rg2, y_rg2', y_lc, z_add, z_sub, z_lt, z_le, z_gt, z_ge, z_eq, z_ne, z_nri, z_nrb, z_nrn, z_nrt, z_lent, z_lenl, z_min, z_ixt, z_revt, List.all_cons, List.all_nil, Bool.and_self, if_true, decide_true, Bool.not_true, Bool.not_false, wipeD, finL, rgOk_0, rgOk_1, and_true, List.reverse_nil, List.nil_append, and_self, cz, e]
    · have hb1 : decide ((0 : Int) < b) = false := decide_eq_false (by omega)
      simp -implicitDefEqProofs only [hb1, if_neg hb0, x_set, x_asg, x_call, x_callM, x_callN, x_cons, x_nil, x_V, x_C, x_1, x_2, x_N, x_tup, x_lc, x_rg1, x_rg2, x_ifE, x_ifS, x_and, x_or, x_not, x_ret, x_par, x_drop, x_nx, x_callP, List.getElem?_cons_zero, List.getElem?_cons_succ, List.set_cons_succ, List.set_cons_zero, y_bn, y_bn', y_un, y_of, y_of2, y_nN, y_ac, y_ac', tp2, tp3, y_ift, y_iff, y_not, y_cl, y_clM, y_clN, y_clP, y_st, y_rt, y_dr, y_ifst, y_ifsf, y_pr, y_pr', y_asg, y_rg1, y_rg2, y_rg2', y_lc, z_add, z_sub, z_lt, z_le, z_gt, z_ge, z_eq, z_ne, z_nri, z_nrb, z_nrn, z_nrt, z_lent, z_lenl, z_min, z_ixt, z_revt, List.all_cons, List.all_nil, Bool.and_self, if_true, decide_true, Bool.not_true, Bool.not_false, wipeD, finL, rgOk_0, rgOk_1, and_true, List.reverse_nil, List.nil_append, and_self]
  refine seq_nx (ρ1 := [some (.scr ns), some (.ref 0), some (.int s), some (.int a), some (.int b), some (.int (if 0 < b then caI s a (b - 1) else 0)), none, none, none, none, none, none, none, none]) (st1 := [M3]) ?_ ?_
  · have c1 : F_count_above [.int ((s : Int) + 1), .int a, .int b] [] = .ok (.int (caI (s + 1) a b)) [] := above_eq (s + 1) a b (by omega) []
    have c2 : F_count_above [.int s, .int a, .int ((b : Int) + 1)] [] = .ok (.int (caI s a (b + 1))) [] := above_eq s a (b + 1) (by omega) []
    have sm := same_int 7 ((if 0 < b then caI s a (b - 1) else 0) + caI s a (b + 1)) []
    simp -implicitDefEqProofs only [x_set, x_asg, x_call, x_callM, x_callN, x_cons, x_nil, x_V, x_C, x_1, x_2, x_N, x_tup, x_lc, x_rg1, x_rg2, x_ifE, x_ifS, x_and, x_or, x_not, x_ret, x_par, x_drop, x_nx, x_callP, List.getElem?_cons_zero, List.getElem?_cons_succ, List.set_cons_succ, List.set_cons_zero, y_bn, y_bn', y_un, y_of, y_of2, y_nN, y_ac, y_ac', tp2, tp3, y_ift, y_iff, y_not, y_cl, y_clM, y_clN, y_clP, y_st, y_rt, y_dr, y_ifst, y_ifsf, y_pr, y_pr', y_asg, y_rg1, y_rg2, y_rg2', y_lc, z_add, z_sub, z_lt, z_le, z_gt, z_ge, z_eq, z_ne, z_nri, z_nrb, z_nrn, z_nrt, z_lent, z_lenl, z_min, z_ixt, z_revt, List.all_cons, List.all_nil, Bool.and_self, if_true, decide_true, Bool.not_true, Bool.not_false, wipeD, finL, rgOk_0, rgOk_1, and_true, List.reverse_nil, List.nil_append, and_self, c1, c2, FA s hs a ha b hb, sm]
  refine seq_nx (ρ1 := [some (.scr ns), some (.ref 0), some (.int s), some (.int a), some (.int b), some (.int (if 0 < b then caI s a (b - 1) else 0)), none, none, none, none, none, none, none, none]) (st1 := [M3]) ?_ ?_
  · have o1 : rgOk ((s : Int) + 1) = true := rgOk_succ (by omega)
    have t1 : ((s : Int) + 1).toNat = s + 1 := by omega
    have ch := choose_eq' s ((s : Int).fdiv 2) (by omega) []
    have fb := FB s hs
    have L := lenOk_rg (lo := 0) (show s + 1 ≤ 1000000 by omega)
    have M := lc_map (b := bName 13) (t := eC (.bl true)) (f := eCall F_count_above (aCons (eV 2) (aCons (eC (.int 0)) (aCons (eV 13) aNil)))) (ρ0 := [some (.scr ns), some (.ref 0), some (.int s), some (.int a), some (.int b), some (.int (if 0 < b then caI s a (b - 1) else 0)), none, none, none, none, none, none, none, none]) (fin := finL) (st := [M3]) (fun (i : Nat) => .int ((0 : Int) + i)) (fun i => .int (caI s 0 i)) (List.range (s + 1)) [] (fun i hi => ⟨[some (.scr ns), some (.ref 0), some (.int s), some (.int a), some (.int b), some (.int (if 0 < b then caI s a (b - 1) else 0)), none, none, none, none, none, none, none, some (.int i)], by rw [Int.zero_add]; rfl, rfl, by
      have c := above_eq s 0 i (by omega) []
      replace c : F_count_above [.int s, .int 0, .int i] [] = .ok (.int (caI s 0 i)) [] := c
      simp -implicitDefEqProofs only [x_set, x_asg, x_call, x_callM, x_callN, x_cons, x_nil, x_V, x_C, x_1, x_2, x_N, x_tup, x_lc, x_rg1, x_rg2, x_ifE, x_ifS, x_and, x_or, x_not, x_ret, x_par, x_drop, x_nx, x_callP, List.getElem?_cons_zero, List.getElem?_cons_succ, List.set_cons_succ, List.set_cons_zero, y_bn, y_bn', y_un, y_of, y_of2, y_nN, y_ac, y_ac', tp2, tp3, y_ift, y_iff, y_not, y_cl, y_clM, y_clN, y_clP, y_st, y_rt, y_dr, y_ifst, y_ifsf, y_pr, y_pr', y_asg, y_rg1, y_rg2, y_rg2', y_lc, z_add, z_sub, z_lt, z_le, z_gt, z_ge, z_eq, z_ne, z_nri, z_nrb, z_nrn, z_nrt, z_lent, z_lenl, z_min, z_ixt, z_revt, List.all_cons, List.all_nil, Bool.and_self, if_true, decide_true, Bool.not_true, Bool.not_false, wipeD, finL, rgOk_0, rgOk_1, and_true, List.reverse_nil, List.nil_append, and_self, c]⟩)
    rw [← rgD_map] at M
    simp -implicitDefEqProofs only [x_set, x_asg, x_call, x_callM, x_callN, x_cons, x_nil, x_V, x_C, x_1, x_2, x_N, x_tup, x_lc, x_rg1, x_rg2, x_ifE, x_ifS, x_and, x_or, x_not, x_ret, x_par, x_drop, x_nx, x_callP, List.getElem?_cons_zero, List.getElem?_cons_succ, List.set_cons_succ, List.set_cons_zero, y_bn, y_bn', y_un, y_of, y_of2, y_nN, y_ac, y_ac', tp2, tp3, y_ift, y_iff, y_not, y_cl, y_clM, y_clN, y_clP, y_st, y_rt, y_dr, y_ifst, y_ifsf, y_pr, y_pr', y_asg, y_rg1, y_rg2, y_rg2', y_lc, z_add, z_sub, z_lt, z_le, z_gt, z_ge, z_eq, z_ne, z_nri, z_nrb, z_nrn, z_nrt, z_lent, z_lenl, z_min, z_ixt, z_revt, List.all_cons, List.all_nil, Bool.and_self, if_true, decide_true, Bool.not_true, Bool.not_false, wipeD, finL, rgOk_0, rgOk_1, and_true, List.reverse_nil, List.nil_append, and_self, o1, t1, M, z_sum, fb, ch, fd2, L]
  refine seq_nx (ρ1 := [some (.scr ns), some (.ref 0), some (.int s), some (.int a), some (.int b), some (.int (if 0 < b then caI s a (b - 1) else 0)), none, none, none, none, none, none, none, none]) (st1 := [M3]) ?_ ?_
  · have o1 : rgOk ((s : Int) + 1) = true := rgOk_succ (by omega)
    have o2 : rgOk ((0 : Int) - s) = true := rgOk_neg (by omega)
    have t1 : ((s : Int) + 1 - (0 - s)).toNat = 2 * s + 1 := by omega
    have t2 := two_eq s (by omega) []
    have fc := FC s hs
    have c1 := paths_eq s b (by omega) []
    have c2 := paths_eq s (0 - b) (by omega) []
    have L := lenOk_rg (lo := (0 : Int) - s) (show 2 * s + 1 ≤ 1000000 by omega)
    have M := lc_map (b := bName 13) (t := eC (.bl true)) (f := eCall F_count_paths (aCons (eV 2) (aCons (eV 13) aNil))) (ρ0 := [some (.scr ns), some (.ref 0), some (.int s), some (.int a), some (.int b), some (.int (if 0 < b then caI s a (b - 1) else 0)), none, none, none, none, none, none, none, none]) (fin := finL) (st := [M3]) (fun (i : Nat) => .int ((0 : Int) - s + i)) (fun i => .int (cpN s ((0 : Int) - s + i) : Nat)) (List.range (2 * s + 1)) [] (fun i hi => ⟨[some (.scr ns), some (.ref 0), some (.int s), some (.int a), some (.int b), some (.int (if 0 < b then caI s a (b - 1) else 0)), none, none, none, none, none, none, none, some (.int ((0 : Int) - s + i))], rfl, rfl, by
      have c := paths_eq s ((0 : Int) - s + i) (by omega) []
      simp -implicitDefEqProofs only [x_set, x_asg, x_call, x_callM, x_callN, x_cons, x_nil, x_V, x_C, x_1, x_2, x_N, x_tup, x_lc, x_rg1, x_rg2, x_ifE, x_ifS, x_and, x_or, x_not, x_ret, x_par, x_drop, x_nx, x_callP, List.getElem?_cons_zero, List.getElem?_cons_succ, List.set_cons_succ, List.set_cons_zero, y_bn, y_bn', y_un, y_of, y_of2, y_nN, y_ac, y_ac', tp2, tp3, y_ift, y_iff, y_not, y_cl, y_clM, y_clN, y_clP, y_st, y_rt, y_dr, y_ifst, y_ifsf, y_pr, y_pr', y_asg, y_rg1, y_rg2, y_rg2', y_lc, z_add, z_sub, z_lt, z_le, z_gt, z_ge, z_eq, z_ne, z_nri, z_nrb, z_nrn, z_nrt, z_lent, z_lenl, z_min, z_ixt, z_revt, List.all_cons, List.all_nil, Bool.and_self, if_true, decide_true, Bool.not_true, Bool.not_false, wipeD, finL, rgOk_0, rgOk_1, and_true, List.reverse_nil, List.nil_append, and_self, c]⟩)
    rw [← rgD_map] at M
    simp -implicitDefEqProofs only [x_set, x_asg, x_call, x_callM, x_callN, x_cons, x_nil, x_V, x_C, x_1, x_2, x_N, x_tup, x_lc, x_rg1, x_rg2, x_ifE, x_ifS, x_and, x_or, x_not, x_ret, x_par, x_drop, x_nx, x_callP, List.getElem?_cons_zero, List.getElem?_cons_succ, List.set_cons_succ, List.set_cons_zero, y_bn, y_bn', y_un, y_of, y_of2, y_nN, y_ac, y_ac', tp2, tp3, y_ift, y_iff, y_not, y_cl, y_clM, y_clN, y_clP, y_st, y_rt, y_dr, y_ifst, y_ifsf, y_pr, y_pr', y_asg, y_rg1, y_rg2, y_rg2', y_lc, z_add, z_sub, z_lt, z_le, z_gt, z_ge, z_eq, z_ne, z_nri, z_nrb, z_nrn, z_nrt, z_lent, z_lenl, z_min, z_ixt, z_revt, List.all_cons, List.all_nil, Bool.and_self, if_true, decide_true, Bool.not_true, Bool.not_false, wipeD, finL, rgOk_0, rgOk_1, and_true, List.reverse_nil, List.nil_append, and_self, M, z_sum, fc, t2, o1, o2, c1, c2, FC2 s hs b hb, t1, L]
  refine seq_nx (ρ1 := [some (.scr ns), some (.ref 0), some (.int s), some (.int a), some (.int b), some (.int (if 0 < b then caI s a (b - 1) else 0)), some (.tup ((List.range' 0 (s + 1)).map fun e => shN (hiN s e))), none, none, none, none, none, none, none]) (st1 := [M3]) ?_ ?_
  · have H := high_eq s (by omega) []
    simp -implicitDefEqProofs only [x_set, x_asg, x_call, x_callM, x_callN, x_cons, x_nil, x_V, x_C, x_1, x_2, x_N, x_tup, x_lc, x_rg1, x_rg2, x_ifE, x_ifS, x_and, x_or, x_not, x_ret, x_par, x_drop, x_nx, x_callP, List.getElem?_cons_zero, List.getElem?_cons_succ, List.set_cons_succ, List.set_cons_zero, y_bn, y_bn', y_un, y_of, y_of2, y_nN, y_ac, y_ac', tp2, tp3, y_ift, y_iff, y_not, y_cl, y_clM, y_clN, y_clP, y_st, y_rt, y_dr, y_ifst, y_ifsf, y_pr, y_pr', y_asg, y_rg1, y_rg2, y_rg2', y_lc, z_add, z_sub, z_lt, z_le, z_gt, z_ge, z_eq, z_ne, z_nri, z_nrb, z_nrn, z_nrt, z_lent, z_lenl, z_min, z_ixt, z_revt, List.all_cons, List.all_nil, Bool.and_self, if_true, decide_true, Bool.not_true, Bool.not_false, wipeD, finL, rgOk_0, rgOk_1, and_true, List.reverse_nil, List.nil_append, and_self, H, nr_shs]
  refine seq_nx (ρ1 := [some (.scr ns), some (.ref 0), some (.int s), some (.int a), some (.int b), some (.int (if 0 < b then caI s a (b - 1) else 0)), some (.tup ((List.range' 0 (s + 1)).map fun e => shN (hiN s e))), none, none, none, none, none, none, none]) (st1 := [M3]) ?_ ?_
  · have S1 := lsum_eq_t ((List.range' 0 (s + 1)).map (hiN s)) (1, 1) [] (FD s hs)
    rw [List.map_map] at S1
    replace S1 : F_law_sum [.tup ((List.range' 0 (s + 1)).map fun e => shN (hiN s e))] [] = .ok (.tup [.int 1, .int 1]) [] := S1
    have q : neD (.tup [.int 1, .int 1]) (.tup [.int 1, .int 1]) [M3] = some (.bl false) := neD_refl rfl
    have i0 : atI ((List.range' 0 (s + 1)).map fun e => shN (hiN s e)) 0 = some (shN (lowN (chooseI s ((s : Int).fdiv 2)) (2 ^ s))) := by rw [← FD2 s hs]; exact at_0
    have C := choose_eq' s ((s : Int).fdiv 2) (by omega) []
    have T2 := two_eq s (by omega) []
    have cb := chooseB s hs
    have LL := lawlow_eq (chooseI s ((s : Int).fdiv 2)) (2 ^ s) (Nat.pow_pos (by decide)) (Nat.pow_lt_pow_right (by decide) (by omega)) (pow_lt' 8000 cb (by decide)) []
    simp -implicitDefEqProofs only [x_set, x_asg, x_call, x_callM, x_callN, x_cons, x_nil, x_V, x_C, x_1, x_2, x_N, x_tup, x_lc, x_rg1, x_rg2, x_ifE, x_ifS, x_and, x_or, x_not, x_ret, x_par, x_drop, x_nx, x_callP, List.getElem?_cons_zero, List.getElem?_cons_succ, List.set_cons_succ, List.set_cons_zero, y_bn, y_bn', y_un, y_of, y_of2, y_nN, y_ac, y_ac', tp2, tp3, y_ift, y_iff, y_not, y_cl, y_clM, y_clN, y_clP, y_st, y_rt, y_dr, y_ifst, y_ifsf, y_pr, y_pr', y_asg, y_rg1, y_rg2, y_rg2', y_lc, z_add, z_sub, z_lt, z_le, z_gt, z_ge, z_eq, z_ne, z_nri, z_nrb, z_nrn, z_nrt, z_lent, z_lenl, z_min, z_ixt, z_revt, List.all_cons, List.all_nil, Bool.and_self, if_true, decide_true, Bool.not_true, Bool.not_false, wipeD, finL, rgOk_0, rgOk_1, and_true, List.reverse_nil, List.nil_append, and_self, S1, nr_shs, neD_refl (shp_sh _), i0, C, T2, LL, nr_sh, fd2, q]
  refine seq_nx (ρ1 := [some (.scr ns), some (.ref 0), some (.int s), some (.int a), some (.int b), some (.int (if 0 < b then caI s a (b - 1) else 0)), some (.tup ((List.range' 0 (s + 1)).map fun e => shN (hiN s e))), some (.int h), none, none, none, none, none, none]) (st1 := [M4]) ?_ ?_
  · simp -implicitDefEqProofs only [x_set, x_asg, x_call, x_callM, x_callN, x_cons, x_nil, x_V, x_C, x_1, x_2, x_N, x_tup, x_lc, x_rg1, x_rg2, x_ifE, x_ifS, x_and, x_or, x_not, x_ret, x_par, x_drop, x_nx, x_callP, List.getElem?_cons_zero, List.getElem?_cons_succ, List.set_cons_succ, List.set_cons_zero, y_bn, y_bn', y_un, y_of, y_of2, y_nN, y_ac, y_ac', tp2, tp3, y_ift, y_iff, y_not, y_cl, y_clM, y_clN, y_clP, y_st, y_rt, y_dr, y_ifst, y_ifsf, y_pr, y_pr', y_asg, y_rg1, y_rg2, y_rg2', y_lc, z_add, z_sub, z_lt, z_le, z_gt, z_ge, z_eq, z_ne, z_nri, z_nrb, z_nrn, z_nrt, z_lent, z_lenl, z_min, z_ixt, z_revt, List.all_cons, List.all_nil, Bool.and_self, if_true, decide_true, Bool.not_true, Bool.not_false, wipeD, finL, rgOk_0, rgOk_1, and_true, List.reverse_nil, List.nil_append, and_self, d4]
  refine seq_nx (ρ1 := [some (.scr ns), some (.ref 0), some (.int s), some (.int a), some (.int b), some (.int (if 0 < b then caI s a (b - 1) else 0)), some (.tup ((List.range' 0 (s + 1)).map fun e => shN (hiN s e))), some (.int h), some (.tup ((List.range (h + 1)).map fun i => shN (lastN h i))), none, none, none, none, none]) (st1 := [M4]) ?_ ?_
  · have LE := last_eq h (by omega) (fun i hi => FE4 i (by omega)) []
    simp -implicitDefEqProofs only [x_set, x_asg, x_call, x_callM, x_callN, x_cons, x_nil, x_V, x_C, x_1, x_2, x_N, x_tup, x_lc, x_rg1, x_rg2, x_ifE, x_ifS, x_and, x_or, x_not, x_ret, x_par, x_drop, x_nx, x_callP, List.getElem?_cons_zero, List.getElem?_cons_succ, List.set_cons_succ, List.set_cons_zero, y_bn, y_bn', y_un, y_of, y_of2, y_nN, y_ac, y_ac', tp2, tp3, y_ift, y_iff, y_not, y_cl, y_clM, y_clN, y_clP, y_st, y_rt, y_dr, y_ifst, y_ifsf, y_pr, y_pr', y_asg, y_rg1, y_rg2, y_rg2', y_lc, z_add, z_sub, z_lt, z_le, z_gt, z_ge, z_eq, z_ne, z_nri, z_nrb, z_nrn, z_nrt, z_lent, z_lenl, z_min, z_ixt, z_revt, List.all_cons, List.all_nil, Bool.and_self, if_true, decide_true, Bool.not_true, Bool.not_false, wipeD, finL, rgOk_0, rgOk_1, and_true, List.reverse_nil, List.nil_append, and_self, LE, nr_shs]
  refine seq_nx (ρ1 := [some (.scr ns), some (.ref 0), some (.int s), some (.int a), some (.int b), some (.int (if 0 < b then caI s a (b - 1) else 0)), some (.tup ((List.range' 0 (s + 1)).map fun e => shN (hiN s e))), some (.int h), some (.tup ((List.range (h + 1)).map fun i => shN (lastN h i))), none, none, none, none, none]) (st1 := [M4]) ?_ ?_
  · have S1 := lsum_eq_t ((List.range (h + 1)).map (lastN h)) (1, 1) [] (FE h hh)
    rw [List.map_map] at S1
    replace S1 : F_law_sum [.tup ((List.range (h + 1)).map fun i => shN (lastN h i))] [] = .ok (.tup [.int 1, .int 1]) [] := S1
    have q : neD (.tup [.int 1, .int 1]) (.tup [.int 1, .int 1]) [M4] = some (.bl false) := neD_refl rfl
    have rv : ((List.range (h + 1)).map fun i => shN (lastN h i)).reverse = (List.range (h + 1)).map fun i => shN (lastN h i) := by
      have e := congrArg (List.map shN) (FE2 h hh)
      rw [List.map_reverse, List.map_map] at e
      exact e
    have i0 : atI ((List.range (h + 1)).map fun i => shN (lastN h i)) 0 = some (shN (evenN h)) := by rw [← FE3 h hh, List.range_succ_eq_map]; exact at_0
    have EV := even_eq h (by omega) []
    have ln : (((List.range (h + 1)).map fun i => shN (lastN h i)).length : Int) = (h : Int) + 1 := by rw [List.length_map, List.length_range]; omega
    simp -implicitDefEqProofs only [x_set, x_asg, x_call, x_callM, x_callN, x_cons, x_nil, x_V, x_C, x_1, x_2, x_N, x_tup, x_lc, x_rg1, x_rg2, x_ifE, x_ifS, x_and, x_or, x_not, x_ret, x_par, x_drop, x_nx, x_callP, List.getElem?_cons_zero, List.getElem?_cons_succ, List.set_cons_succ, List.set_cons_zero, y_bn, y_bn', y_un, y_of, y_of2, y_nN, y_ac, y_ac', tp2, tp3, y_ift, y_iff, y_not, y_cl, y_clM, y_clN, y_clP, y_st, y_rt, y_dr, y_ifst, y_ifsf, y_pr, y_pr', y_asg, y_rg1, y_rg2, y_rg2', y_lc, z_add, z_sub, z_lt, z_le, z_gt, z_ge, z_eq, z_ne, z_nri, z_nrb, z_nrn, z_nrt, z_lent, z_lenl, z_min, z_ixt, z_revt, List.all_cons, List.all_nil, Bool.and_self, if_true, decide_true, Bool.not_true, Bool.not_false, wipeD, finL, rgOk_0, rgOk_1, and_true, List.reverse_nil, List.nil_append, and_self, S1, nr_shs, q, rv, i0, neD_refl (shp_sh _), neD_refl (shp_shs _ _), EV, nr_sh, ln]
  refine seq_nx (ρ1 := [some (.scr ns), some (.ref 0), some (.int s), some (.int a), some (.int b), some (.int (if 0 < b then caI s a (b - 1) else 0)), some (.tup ((List.range' 0 (s + 1)).map fun e => shN (hiN s e))), some (.int h), some (.tup ((List.range (h + 1)).map fun i => shN (lastN h i))), some (shN z), none, none, none, none]) (st1 := [M4]) ?_ ?_
  · have o1 : rgOk ((h : Int) + 1) = true := rgOk_succ (by omega)
    have t1 : ((h : Int) + 1 - 1).toNat = h := by omega
    have L := lenOk_rg (lo := 1) (show h ≤ 1000000 by omega)
    have LS := lsum_eq_l ((List.range h).map fun i => firstN (1 + i)) z [] fz
    rw [List.map_map] at LS
    replace LS : F_law_sum [.lst ((List.range h).map fun i => shN (firstN (1 + i)))] [] = .ok (shN z) [] := LS
    have nl : nr 12 (.lst ((List.range h).map fun i => shN (firstN (1 + i)))) = true := nr_shs _ _
    have M := lc_map (b := bName 13) (t := eC (.bl true)) (f := eCall F_first_even (aCons (eV 13) aNil)) (ρ0 := [some (.scr ns), some (.ref 0), some (.int s), some (.int a), some (.int b), some (.int (if 0 < b then caI s a (b - 1) else 0)), some (.tup ((List.range' 0 (s + 1)).map fun e => shN (hiN s e))), some (.int h), some (.tup ((List.range (h + 1)).map fun i => shN (lastN h i))), none, none, none, none, none]) (fin := finL) (st := [M4]) (fun (i : Nat) => .int ((1 : Int) + i)) (fun i => shN (firstN (1 + i))) (List.range h) [] (fun i hi => ⟨[some (.scr ns), some (.ref 0), some (.int s), some (.int a), some (.int b), some (.int (if 0 < b then caI s a (b - 1) else 0)), some (.tup ((List.range' 0 (s + 1)).map fun e => shN (hiN s e))), some (.int h), some (.tup ((List.range (h + 1)).map fun i => shN (lastN h i))), none, none, none, none, some (.int ((1 : Int) + i))], rfl, rfl, by
      have hi : i < h := List.mem_range.mp hi
      have e : (1 : Int) + i = ((1 + i : Nat) : Int) := by omega
      have c := first_eq (1 + i) (by omega) (by omega) (FE4 (1 + i) (by omega)) []
      simp -implicitDefEqProofs only [x_set, x_asg, x_call, x_callM, x_callN, x_cons, x_nil, x_V, x_C, x_1, x_2, x_N, x_tup, x_lc, x_rg1, x_rg2, x_ifE, x_ifS, x_and, x_or, x_not, x_ret, x_par, x_drop, x_nx, x_callP, List.getElem?_cons_zero, List.getElem?_cons_succ, List.set_cons_succ, List.set_cons_zero, y_bn, y_bn', y_un, y_of, y_of2, y_nN, y_ac, y_ac', tp2, tp3, y_ift, y_iff, y_not, y_cl, y_clM, y_clN, y_clP, y_st, y_rt, y_dr, y_ifst, y_ifsf, y_pr, y_pr', y_asg, y_rg1, y_rg2, y_rg2', y_lc, z_add, z_sub, z_lt, z_le, z_gt, z_ge, z_eq, z_ne, z_nri, z_nrb, z_nrn, z_nrt, z_lent, z_lenl, z_min, z_ixt, z_revt, List.all_cons, List.all_nil, Bool.and_self, if_true, decide_true, Bool.not_true, Bool.not_false, wipeD, finL, rgOk_0, rgOk_1, and_true, List.reverse_nil, List.nil_append, and_self, e, c, nr_sh]⟩)
    rw [← rgD_map] at M
    simp -implicitDefEqProofs only [x_set, x_asg, x_call, x_callM, x_callN, x_cons, x_nil, x_V, x_C, x_1, x_2, x_N, x_tup, x_lc, x_rg1, x_rg2, x_ifE, x_ifS, x_and, x_or, x_not, x_ret, x_par, x_drop, x_nx, x_callP, List.getElem?_cons_zero, List.getElem?_cons_succ, List.set_cons_succ, List.set_cons_zero, y_bn, y_bn', y_un, y_of, y_of2, y_nN, y_ac, y_ac', tp2, tp3, y_ift, y_iff, y_not, y_cl, y_clM, y_clN, y_clP, y_st, y_rt, y_dr, y_ifst, y_ifsf, y_pr, y_pr', y_asg, y_rg1, y_rg2, y_rg2', y_lc, z_add, z_sub, z_lt, z_le, z_gt, z_ge, z_eq, z_ne, z_nri, z_nrb, z_nrn, z_nrt, z_lent, z_lenl, z_min, z_ixt, z_revt, List.all_cons, List.all_nil, Bool.and_self, if_true, decide_true, Bool.not_true, Bool.not_false, wipeD, finL, rgOk_0, rgOk_1, and_true, List.reverse_nil, List.nil_append, and_self, M, LS, nr_shs, nr_sh, o1, t1, L, nl]
  refine seq_nx (ρ1 := [some (.scr ns), some (.ref 0), some (.int s), some (.int a), some (.int b), some (.int (if 0 < b then caI s a (b - 1) else 0)), some (.tup ((List.range' 0 (s + 1)).map fun e => shN (hiN s e))), some (.int h), some (.tup ((List.range (h + 1)).map fun i => shN (lastN h i))), some (shN z), none, none, none, none]) (st1 := [M4]) ?_ ?_
  · have EV := even_eq h (by omega) []
    have PL := lplus_eq z (evenN h) zs (FE4 h hh) []
    rw [zp] at PL
    replace PL : F_law_plus [shN z, shN (evenN h)] [] = .ok (.tup [.int 1, .int 1]) [] := PL
    have q : neD (.tup [.int 1, .int 1]) (.tup [.int 1, .int 1]) [M4] = some (.bl false) := neD_refl rfl
    simp -implicitDefEqProofs only [x_set, x_asg, x_call, x_callM, x_callN, x_cons, x_nil, x_V, x_C, x_1, x_2, x_N, x_tup, x_lc, x_rg1, x_rg2, x_ifE, x_ifS, x_and, x_or, x_not, x_ret, x_par, x_drop, x_nx, x_callP, List.getElem?_cons_zero, List.getElem?_cons_succ, List.set_cons_succ, List.set_cons_zero, y_bn, y_bn', y_un, y_of, y_of2, y_nN, y_ac, y_ac', tp2, tp3, y_ift, y_iff, y_not, y_cl, y_clM, y_clN, y_clP, y_st, y_rt, y_dr, y_ifst, y_ifsf, y_pr, y_pr', y_asg, y_rg1, y_rg2, y_rg2', y_lc, z_add, z_sub, z_lt, z_le, z_gt, z_ge, z_eq, z_ne, z_nri, z_nrb, z_nrn, z_nrt, z_lent, z_lenl, z_min, z_ixt, z_revt, List.all_cons, List.all_nil, Bool.and_self, if_true, decide_true, Bool.not_true, Bool.not_false, wipeD, finL, rgOk_0, rgOk_1, and_true, List.reverse_nil, List.nil_append, and_self, PL, EV, nr_sh, q]
  have hp : h < 2 ^ 100 := pow_lt' 100 (b := 5) (by omega) (by decide)
  have ca (x y : Nat) : F_count_above [.int (2 * h : Nat), .int x, .int y] [] = .ok (.int (caI (2 * h) x y)) [] := above_eq (2 * h) x y (by omega) []
  refine seq_nx (ρ1 := [some (.scr ns), some (.ref 0), some (.int s), some (.int a), some (.int b), some (.int (if 0 < b then caI s a (b - 1) else 0)), some (.tup ((List.range' 0 (s + 1)).map fun e => shN (hiN s e))), some (.int h), some (.tup ((List.range (h + 1)).map fun i => shN (lastN h i))), some (shN z), some (.int (caI (2 * h) 0 0)), none, none, none]) (st1 := [M4]) ?_ ?_
  · have c0 : F_count_above [.int (2 * h : Nat), .int 0, .int 0] [] = .ok (.int (caI (2 * h) 0 0)) [] := ca 0 0
    simp -implicitDefEqProofs only [x_set, x_asg, x_call, x_callM, x_callN, x_cons, x_nil, x_V, x_C, x_1, x_2, x_N, x_tup, x_lc, x_rg1, x_rg2, x_ifE, x_ifS, x_and, x_or, x_not, x_ret, x_par, x_drop, x_nx, x_callP, List.getElem?_cons_zero, List.getElem?_cons_succ, List.set_cons_succ, List.set_cons_zero, y_bn, y_bn', y_un, y_of, y_of2, y_nN, y_ac, y_ac', tp2, tp3, y_ift, y_iff, y_not, y_cl, y_clM, y_clN, y_clP, y_st, y_rt, y_dr, y_ifst, y_ifsf, y_pr, y_pr', y_asg, y_rg1, y_rg2, y_rg2', y_lc, z_add, z_sub, z_lt, z_le, z_gt, z_ge, z_eq, z_ne, z_nri, z_nrb, z_nrn, z_nrt, z_lent, z_lenl, z_min, z_ixt, z_revt, List.all_cons, List.all_nil, Bool.and_self, if_true, decide_true, Bool.not_true, Bool.not_false, wipeD, finL, rgOk_0, rgOk_1, and_true, List.reverse_nil, List.nil_append, and_self, mu2 hp, c0]
  refine seq_nx (ρ1 := [some (.scr ns), some (.ref 0), some (.int s), some (.int a), some (.int b), some (.int (if 0 < b then caI s a (b - 1) else 0)), some (.tup ((List.range' 0 (s + 1)).map fun e => shN (hiN s e))), some (.int h), some (.tup ((List.range (h + 1)).map fun i => shN (lastN h i))), some (shN z), some (.int (caI (2 * h) 0 0)), none, none, none]) (st1 := [M4]) ?_ ?_
  · have ch := choose_eq' (2 * h) h (by omega) []
    have ml (st : Sto) : mulD (.int (caI (2 * h) 0 0)) (.int ((h : Int) + 1)) st = some (.int (chooseI (2 * h) h : Nat)) := by
      have l1 : (caI (2 * h) 0 0).natAbs.log2 < 100 := log_lt (FG3 h hh) (by decide)
      have l2 : ((h : Int) + 1).natAbs.log2 < 100 := log_lt (pow_lt' 100 (b := 6) (by omega) (by decide)) (by decide)
      rw [z_mul, if_pos (by omega), FG h hh]
    have q : decide (caI (2 * h) a a < caI (2 * h) 0 0) = false := decide_eq_false (by have := FG2 h hh a ha; omega)
    simp -implicitDefEqProofs only [x_set, x_asg, x_call, x_callM, x_callN, x_cons, x_nil, x_V, x_C, x_1, x_2, x_N, x_tup, x_lc, x_rg1, x_rg2, x_ifE, x_ifS, x_and, x_or, x_not, x_ret, x_par, x_drop, x_nx, x_callP, List.getElem?_cons_zero, List.getElem?_cons_succ, List.set_cons_succ, List.set_cons_zero, y_bn, y_bn', y_un, y_of, y_of2, y_nN, y_ac, y_ac', tp2, tp3, y_ift, y_iff, y_not, y_cl, y_clM, y_clN, y_clP, y_st, y_rt, y_dr, y_ifst, y_ifsf, y_pr, y_pr', y_asg, y_rg1, y_rg2, y_rg2', y_lc, z_add, z_sub, z_lt, z_le, z_gt, z_ge, z_eq, z_ne, z_nri, z_nrb, z_nrn, z_nrt, z_lent, z_lenl, z_min, z_ixt, z_revt, List.all_cons, List.all_nil, Bool.and_self, if_true, decide_true, Bool.not_true, Bool.not_false, wipeD, finL, rgOk_0, rgOk_1, and_true, List.reverse_nil, List.nil_append, and_self, mu2 hp, ca, ml, ch, q]
  refine seq_nx (ρ1 := [some (.scr ns), some (.ref 0), some (.int s), some (.int a), some (.int b), some (.int (if 0 < b then caI s a (b - 1) else 0)), some (.tup ((List.range' 0 (s + 1)).map fun e => shN (hiN s e))), some (.int h), some (.tup ((List.range (h + 1)).map fun i => shN (lastN h i))), some (shN z), some (.int (caI (2 * h) 0 0)), none, none, none]) (st1 := [M4]) ?_ ?_
  · by_cases h0 : 0 < h
    · have q : decide ((0 : Int) < (h : Int)) = true := decide_eq_true (by omega)
      have F1 := first_eq h h0 (by omega) (FE4 h hh) []
      have e : ((2 * h : Nat) : Int) - 2 = ((2 * h - 2 : Nat) : Int) := by omega
      have c0 : F_count_above [.int (2 * h - 2 : Nat), .int 0, .int 0] [] = .ok (.int (caI (2 * h - 2) 0 0)) [] := above_eq (2 * h - 2) 0 0 (by omega) []
      rw [← FH2 h hh h0] at c0
      have b3 := FH3 h hh h0
      have m3 := mu2 (i := (caI (2 * h - 2) 0 0).toNat) (st := [M4]) (by omega)
      have t2 := two_eq (2 * h) (by omega) []
      have LL := lawlow_eq (2 * (caI (2 * h - 2) 0 0).toNat) (2 ^ (2 * h)) (Nat.pow_pos (by decide)) (Nat.pow_lt_pow_right (by decide) (by omega)) (pow_lt' 8000 b3.1 (by decide)) []
      rw [← FH h hh h0] at LL
      simp -implicitDefEqProofs only [x_set, x_asg, x_call, x_callM, x_callN, x_cons, x_nil, x_V, x_C, x_1, x_2, x_N, x_tup, x_lc, x_rg1, x_rg2, x_ifE, x_ifS, x_and, x_or, x_not, x_ret, x_par, x_drop, x_nx, x_callP, List.getElem?_cons_zero, List.getElem?_cons_succ, List.set_cons_succ, List.set_cons_zero, y_bn, y_bn', y_un, y_of, y_of2, y_nN, y_ac, y_ac', tp2, tp3, y_ift, y_iff, y_not, y_cl, y_clM, y_clN, y_clP, y_st, y_rt, y_dr, y_ifst, y_ifsf, y_pr, y_pr', y_asg, y_rg1, y_rg2, y_rg2', y_lc, z_add, z_sub, z_lt, z_le, z_gt, z_ge, z_eq, z_ne, z_nri, z_nrb, z_nrn, z_nrt, z_lent, z_lenl, z_min, z_ixt, z_revt, List.all_cons, List.all_nil, Bool.and_self, if_true, decide_true, Bool.not_true, Bool.not_false, wipeD, finL, rgOk_0, rgOk_1, and_true, List.reverse_nil, List.nil_append, and_self, q, F1, mu2 hp, e, c0, m3, t2, LL, nr_sh, neD_refl (shp_sh _)]
    · have q : decide ((0 : Int) < (h : Int)) = false := decide_eq_false (by omega)
      simp -implicitDefEqProofs only [x_set, x_asg, x_call, x_callM, x_callN, x_cons, x_nil, x_V, x_C, x_1, x_2, x_N, x_tup, x_lc, x_rg1, x_rg2, x_ifE, x_ifS, x_and, x_or, x_not, x_ret, x_par, x_drop, x_nx, x_callP, List.getElem?_cons_zero, List.getElem?_cons_succ, List.set_cons_succ, List.set_cons_zero, y_bn, y_bn', y_un, y_of, y_of2, y_nN, y_ac, y_ac', tp2, tp3, y_ift, y_iff, y_not, y_cl, y_clM, y_clN, y_clP, y_st, y_rt, y_dr, y_ifst, y_ifsf, y_pr, y_pr', y_asg, y_rg1, y_rg2, y_rg2', y_lc, z_add, z_sub, z_lt, z_le, z_gt, z_ge, z_eq, z_ne, z_nri, z_nrb, z_nrn, z_nrt, z_lent, z_lenl, z_min, z_ixt, z_revt, List.all_cons, List.all_nil, Bool.and_self, if_true, decide_true, Bool.not_true, Bool.not_false, wipeD, finL, rgOk_0, rgOk_1, and_true, List.reverse_nil, List.nil_append, and_self, q]
  refine seq_nx (ρ1 := [some (.scr ns), some (.ref 0), some (.int s), some (.int a), some (.int b), some (.int (if 0 < b then caI s a (b - 1) else 0)), some (.tup ((List.range' 0 (s + 1)).map fun e => shN (hiN s e))), some (.int h), some (.tup ((List.range (h + 1)).map fun i => shN (lastN h i))), some (shN z), some (.int (caI (2 * h) 0 0)), some (.int (f + 1 : Nat)), some (.int o), none]) (st1 := [M6]) ?_ ?_
  · have e1 : (1 : Int) + f = ((f + 1 : Nat) : Int) := by omega
    simp -implicitDefEqProofs only [x_set, x_asg, x_call, x_callM, x_callN, x_cons, x_nil, x_V, x_C, x_1, x_2, x_N, x_tup, x_lc, x_rg1, x_rg2, x_ifE, x_ifS, x_and, x_or, x_not, x_ret, x_par, x_drop, x_nx, x_callP, List.getElem?_cons_zero, List.getElem?_cons_succ, List.set_cons_succ, List.set_cons_zero, y_bn, y_bn', y_un, y_of, y_of2, y_nN, y_ac, y_ac', tp2, tp3, y_ift, y_iff, y_not, y_cl, y_clM, y_clN, y_clP, y_st, y_rt, y_dr, y_ifst, y_ifsf, y_pr, y_pr', y_asg, y_rg1, y_rg2, y_rg2', y_lc, z_add, z_sub, z_lt, z_le, z_gt, z_ge, z_eq, z_ne, z_nri, z_nrb, z_nrn, z_nrt, z_lent, z_lenl, z_min, z_ixt, z_revt, List.all_cons, List.all_nil, Bool.and_self, if_true, decide_true, Bool.not_true, Bool.not_false, wipeD, finL, rgOk_0, rgOk_1, and_true, List.reverse_nil, List.nil_append, and_self, d5, d6, e1]
  have e2 : ((f + 1 : Nat) : Int) + (o : Int) = ((f + 1 + o : Nat) : Int) := by omega
  have e3 : ((f + 1 : Nat) : Int) - 1 = (f : Int) := by omega
  have s1 : f + 1 + o < 2 ^ 8000 := pow_lt' 8000 (b := 6) (by omega) (by decide)
  have s2 : f + 1 < 2 ^ 8000 := pow_lt' 8000 (b := 6) (by omega) (by decide)
  have s3 : f + 1 + 1 < 2 ^ 8000 := pow_lt' 8000 (b := 6) (by omega) (by decide)
  have A := ahead_eq (f + 1) o (by omega) s1 []
  refine seq_nx (ρ1 := [some (.scr ns), some (.ref 0), some (.int s), some (.int a), some (.int b), some (.int (if 0 < b then caI s a (b - 1) else 0)), some (.tup ((List.range' 0 (s + 1)).map fun e => shN (hiN s e))), some (.int h), some (.tup ((List.range (h + 1)).map fun i => shN (lastN h i))), some (shN z), some (.int (caI (2 * h) 0 0)), some (.int (f + 1 : Nat)), some (.int o), none]) (st1 := [M6]) ?_ ?_
  · have LL := lawlow_eq (f + 1) (f + 1 + o) (by omega) s1 s2 []
    have NB := never_eq f o s2 []
    have TI := ltimes_eq (lowN (f + 1) (f + 1 + o)) (lowN (f + 1 - o) (f + 1)) (FI2 f hf o ho).1 (FI2 f hf o ho).2 []
    rw [← FI f hf o ho] at TI
    have SM := same_sh 6 (lowN (f + 1 - o) (f + 1 + o)) []
    simp -implicitDefEqProofs only [x_set, x_asg, x_call, x_callM, x_callN, x_cons, x_nil, x_V, x_C, x_1, x_2, x_N, x_tup, x_lc, x_rg1, x_rg2, x_ifE, x_ifS, x_and, x_or, x_not, x_ret, x_par, x_drop, x_nx, x_callP, List.getElem?_cons_zero, List.getElem?_cons_succ, List.set_cons_succ, List.set_cons_zero, y_bn, y_bn', y_un, y_of, y_of2, y_nN, y_ac, y_ac', tp2, tp3, y_ift, y_iff, y_not, y_cl, y_clM, y_clN, y_clP, y_st, y_rt, y_dr, y_ifst, y_ifsf, y_pr, y_pr', y_asg, y_rg1, y_rg2, y_rg2', y_lc, z_add, z_sub, z_lt, z_le, z_gt, z_ge, z_eq, z_ne, z_nri, z_nrb, z_nrn, z_nrt, z_lent, z_lenl, z_min, z_ixt, z_revt, List.all_cons, List.all_nil, Bool.and_self, if_true, decide_true, Bool.not_true, Bool.not_false, wipeD, finL, rgOk_0, rgOk_1, and_true, List.reverse_nil, List.nil_append, and_self, A, LL, NB, TI, SM, e2, e3, nr_sh]
  refine seq_nx (ρ1 := [some (.scr ns), some (.ref 0), some (.int s), some (.int a), some (.int b), some (.int (if 0 < b then caI s a (b - 1) else 0)), some (.tup ((List.range' 0 (s + 1)).map fun e => shN (hiN s e))), some (.int h), some (.tup ((List.range (h + 1)).map fun i => shN (lastN h i))), some (shN z), some (.int (caI (2 * h) 0 0)), some (.int (f + 1 : Nat)), some (.int o), none]) (st1 := [M6]) ?_ ?_
  · by_cases h0 : o ≤ f + 1
    · have q : decide ((o : Int) ≤ ((f + 1 : Nat) : Int)) = true := decide_eq_true (by omega)
      obtain ⟨j1, j2, j3, j4, j5⟩ := FJ f hf o ho h0
      have NB := never_eq (f + 1) o s3 []
      have e4 : ((f + 1 : Nat) : Int) - (o : Int) = ((f + 1 - o : Nat) : Int) := by omega
      have c0 : F_count_above [.int (f + 1 + o : Nat), .int 0, .int (f + 1 - o : Nat)] [] = .ok (.int (caI (f + 1 + o) 0 (f + 1 - o))) [] := above_eq (f + 1 + o) 0 (f + 1 - o) (by omega) []
      rw [← j2] at c0
      have ch := choose_eq' (f + 1 + o) o (by omega) []
      have LL := lawlow_eq (caI (f + 1 + o) 0 (f + 1 - o)).toNat (chooseI (f + 1 + o) o) j3 (pow_lt' 8000 j4 (by decide)) (pow_lt' 8000 j5 (by decide)) []
      rw [← j1] at LL
      simp -implicitDefEqProofs only [x_set, x_asg, x_call, x_callM, x_callN, x_cons, x_nil, x_V, x_C, x_1, x_2, x_N, x_tup, x_lc, x_rg1, x_rg2, x_ifE, x_ifS, x_and, x_or, x_not, x_ret, x_par, x_drop, x_nx, x_callP, List.getElem?_cons_zero, List.getElem?_cons_succ, List.set_cons_succ, List.set_cons_zero, y_bn, y_bn', y_un, y_of, y_of2, y_nN, y_ac, y_ac', tp2, tp3, y_ift, y_iff, y_not, y_cl, y_clM, y_clN, y_clP, y_st, y_rt, y_dr, y_ifst, y_ifsf, y_pr, y_pr', y_asg, y_rg1, y_rg2, y_rg2', y_lc, z_add, z_sub, z_lt, z_le, z_gt, z_ge, z_eq, z_ne, z_nri, z_nrb, z_nrn, z_nrt, z_lent, z_lenl, z_min, z_ixt, z_revt, List.all_cons, List.all_nil, Bool.and_self, if_true, decide_true, Bool.not_true, Bool.not_false, wipeD, finL, rgOk_0, rgOk_1, and_true, List.reverse_nil, List.nil_append, and_self, q, NB, e2, e4, c0, ch, LL, nr_sh, neD_refl (shp_sh _)]
    · have q : decide ((o : Int) ≤ ((f + 1 : Nat) : Int)) = false := decide_eq_false (by omega)
      simp -implicitDefEqProofs only [x_set, x_asg, x_call, x_callM, x_callN, x_cons, x_nil, x_V, x_C, x_1, x_2, x_N, x_tup, x_lc, x_rg1, x_rg2, x_ifE, x_ifS, x_and, x_or, x_not, x_ret, x_par, x_drop, x_nx, x_callP, List.getElem?_cons_zero, List.getElem?_cons_succ, List.set_cons_succ, List.set_cons_zero, y_bn, y_bn', y_un, y_of, y_of2, y_nN, y_ac, y_ac', tp2, tp3, y_ift, y_iff, y_not, y_cl, y_clM, y_clN, y_clP, y_st, y_rt, y_dr, y_ifst, y_ifsf, y_pr, y_pr', y_asg, y_rg1, y_rg2, y_rg2', y_lc, z_add, z_sub, z_lt, z_le, z_gt, z_ge, z_eq, z_ne, z_nri, z_nrb, z_nrn, z_nrt, z_lent, z_lenl, z_min, z_ixt, z_revt, List.all_cons, List.all_nil, Bool.and_self, if_true, decide_true, Bool.not_true, Bool.not_false, wipeD, finL, rgOk_0, rgOk_1, and_true, List.reverse_nil, List.nil_append, and_self, q]
  by_cases h0 : o = 0
  · subst h0
    have E := FK f hf
    rw [E] at A
    replace A : F_ahead_all [.int (f + 1 : Nat), .int ((0 : Nat) : Int)] [] = .ok (.tup [.int 1, .int 1]) [] := A
    have q : eqD (.tup [.int 1, .int 1]) (.tup [.int 1, .int 1]) [M6] = some (.bl true) := eqD_refl rfl
    have q0 : decide (((0 : Nat) : Int) = 0) = true := by decide
    simp -implicitDefEqProofs only [x_seq, y_thr, x_set, x_asg, x_call, x_callM, x_callN, x_cons, x_nil, x_V, x_C, x_1, x_2, x_N, x_tup, x_lc, x_rg1, x_rg2, x_ifE, x_ifS, x_and, x_or, x_not, x_ret, x_par, x_drop, x_nx, x_callP, List.getElem?_cons_zero, List.getElem?_cons_succ, List.set_cons_succ, List.set_cons_zero, y_bn, y_bn', y_un, y_of, y_of2, y_nN, y_ac, y_ac', tp2, tp3, y_ift, y_iff, y_not, y_cl, y_clM, y_clN, y_clP, y_st, y_rt, y_dr, y_ifst, y_ifsf, y_pr, y_pr', y_asg, y_rg1, y_rg2, y_rg2', y_lc, z_add, z_sub, z_lt, z_le, z_gt, z_ge, z_eq, z_ne, z_nri, z_nrb, z_nrn, z_nrt, z_lent, z_lenl, z_min, z_ixt, z_revt, List.all_cons, List.all_nil, Bool.and_self, if_true, decide_true, Bool.not_true, Bool.not_false, wipeD, finL, rgOk_0, rgOk_1, and_true, List.reverse_nil, List.nil_append, and_self, q0, A, q]
  · have q : decide ((o : Int) = 0) = false := decide_eq_false (by omega)
    refine seq_nx (ρ1 := [some (.scr ns), some (.ref 0), some (.int s), some (.int a), some (.int b), some (.int (if 0 < b then caI s a (b - 1) else 0)), some (.tup ((List.range' 0 (s + 1)).map fun e => shN (hiN s e))), some (.int h), some (.tup ((List.range (h + 1)).map fun i => shN (lastN h i))), some (shN z), some (.int (caI (2 * h) 0 0)), some (.int (f + 1 : Nat)), some (.int o), none]) (st1 := [M6]) ?_ ?_
    · simp -implicitDefEqProofs only [x_set, x_asg, x_call, x_callM, x_callN, x_cons, x_nil, x_V, x_C, x_1, x_2, x_N, x_tup, x_lc, x_rg1, x_rg2, x_ifE, x_ifS, x_and, x_or, x_not, x_ret, x_par, x_drop, x_nx, x_callP, List.getElem?_cons_zero, List.getElem?_cons_succ, List.set_cons_succ, List.set_cons_zero, y_bn, y_bn', y_un, y_of, y_of2, y_nN, y_ac, y_ac', tp2, tp3, y_ift, y_iff, y_not, y_cl, y_clM, y_clN, y_clP, y_st, y_rt, y_dr, y_ifst, y_ifsf, y_pr, y_pr', y_asg, y_rg1, y_rg2, y_rg2', y_lc, z_add, z_sub, z_lt, z_le, z_gt, z_ge, z_eq, z_ne, z_nri, z_nrb, z_nrn, z_nrt, z_lent, z_lenl, z_min, z_ixt, z_revt, List.all_cons, List.all_nil, Bool.and_self, if_true, decide_true, Bool.not_true, Bool.not_false, wipeD, finL, rgOk_0, rgOk_1, and_true, List.reverse_nil, List.nil_append, and_self, q]
    · have B := ahead_eq o (f + 1) (by omega) (by rw [Nat.add_comm]; exact s1) []
      have E := FL f hf o ho
      have q : ∀ (x y : Nat), min x y = 0 → decide (min (x : Int) (y : Int) = 0) = true := fun x y h => decide_eq_true (by omega)
      simp -implicitDefEqProofs only [x_set, x_asg, x_call, x_callM, x_callN, x_cons, x_nil, x_V, x_C, x_1, x_2, x_N, x_tup, x_lc, x_rg1, x_rg2, x_ifE, x_ifS, x_and, x_or, x_not, x_ret, x_par, x_drop, x_nx, x_callP, List.getElem?_cons_zero, List.getElem?_cons_succ, List.set_cons_succ, List.set_cons_zero, y_bn, y_bn', y_un, y_of, y_of2, y_nN, y_ac, y_ac', tp2, tp3, y_ift, y_iff, y_not, y_cl, y_clM, y_clN, y_clP, y_st, y_rt, y_dr, y_ifst, y_ifsf, y_pr, y_pr', y_asg, y_rg1, y_rg2, y_rg2', y_lc, z_add, z_sub, z_lt, z_le, z_gt, z_ge, z_eq, z_ne, z_nri, z_nrb, z_nrn, z_nrt, z_lent, z_lenl, z_min, z_ixt, z_revt, List.all_cons, List.all_nil, Bool.and_self, if_true, decide_true, Bool.not_true, Bool.not_false, wipeD, finL, rgOk_0, rgOk_1, and_true, List.reverse_nil, List.nil_append, and_self, A, B, nr_sh, at_0, q _ _ E]
end K51
open PySem PySem.W PyProof.Rows
set_option maxRecDepth 100000 in
set_option maxHeartbeats 0 in
theorem PySem.Challenge.cw_throwstold_k51_whole_paths_among_one_ano_holds : PySem.Challenge.rw_throwstold_k51_whole_paths_among_one_ano.Holds := by
  w_on; o_law; k_head; (case hw => w_witness2)
  k_fill
  refine L4.law_walk (l := PySem.Challenge.rw_throwstold_k51_whole_paths_among_one_ano) (k := 10) rfl rfl ⟨rfl, by decide, by decide⟩ (fun w h Y => PySem.W.kIn_of Y) ?F
  case F =>
    intro w mg fa h KX G hmg
    refine' K51.end_mk (l := PySem.Challenge.rw_throwstold_k51_whole_paths_among_one_ano) KX G hmg K51.plain ?z_abs ?z_bool ?z_int ?z_isinstance ?z_len ?z_list ?z_max ?z_min ?z_range ?z_str ?z_sum ?z_tuple ?c_MOST_STEPS ?xa_BadPlan ?xx_BadPlan ?xk_BadPlan ?xb_BadPlan ?xt_BadPlan ?xa_BadShare ?xx_BadShare ?xk_BadShare ?xb_BadShare ?xt_BadShare ?a_law_draw ?l_law_draw ?cc_law_draw ?k_law_draw ?a_law_draws ?l_law_draws ?cc_law_draws ?k_law_draws ?a_law_low ?l_law_low ?cc_law_low ?k_law_low ?a_law_plus ?l_law_plus ?cc_law_plus ?k_law_plus ?a_law_same ?l_law_same ?cc_law_same ?k_law_same ?a_law_sum ?l_law_sum ?cc_law_sum ?k_law_sum ?a_law_times ?l_law_times ?cc_law_times ?k_law_times ?a_law_two ?l_law_two ?cc_law_two ?k_law_two ?a_is_whole ?l_is_whole ?cc_is_whole ?k_is_whole ?a_divisor ?l_divisor ?cc_divisor ?k_divisor ?a_low ?l_low ?cc_low ?k_low ?a_ahead_all ?l_ahead_all ?cc_ahead_all ?k_ahead_all ?a_choose ?l_choose ?cc_choose ?k_choose ?a_look_at_steps ?l_look_at_steps ?cc_look_at_steps ?k_look_at_steps ?a_count_paths ?l_count_paths ?cc_count_paths ?k_count_paths ?a_count_above ?l_count_above ?cc_count_above ?k_count_above ?a_even_now ?l_even_now ?cc_even_now ?k_even_now ?a_over ?l_over ?cc_over ?k_over ?a_first_even ?l_first_even ?cc_first_even ?k_first_even ?a_highest ?l_highest ?cc_highest ?k_highest ?a_times ?l_times ?cc_times ?k_times ?a_last_even ?l_last_even ?cc_last_even ?k_last_even ?a_never_behind ?l_never_behind ?cc_never_behind ?k_never_behind ?a_law ?l_law ?cc_law ?k_law
    (case z_abs => k_is); (case z_bool => k_is); (case z_int => k_is); (case z_isinstance => k_is); (case z_len => k_is); (case z_list => k_is)
    (case z_max => k_is); (case z_min => k_is); (case z_range => k_is); (case z_str => k_is); (case z_sum => k_is); (case z_tuple => k_is)
    (case c_MOST_STEPS => k_is); (case xa_BadPlan => k_is); (case xx_BadPlan => k_exc); (case xk_BadPlan => k_is); (case xb_BadPlan => k_is); (case xt_BadPlan => k_is)
    (case xa_BadShare => k_is); (case xx_BadShare => k_exc); (case xk_BadShare => k_is); (case xb_BadShare => k_is); (case xt_BadShare => k_is); (case a_law_draw => k_is)
    (case l_law_draw => k_is); (case cc_law_draw => k_is); (case k_law_draw => k_is); (case a_law_draws => k_is); (case l_law_draws => k_is); (case cc_law_draws => k_is)
    (case k_law_draws => k_is); (case a_law_low => k_is); (case l_law_low => k_is); (case cc_law_low => k_is); (case k_law_low => k_is); (case a_law_plus => k_is)
    (case l_law_plus => k_is); (case cc_law_plus => k_is); (case k_law_plus => k_is); (case a_law_same => k_is); (case l_law_same => k_is); (case cc_law_same => k_is)
    (case k_law_same => k_is); (case a_law_sum => k_is); (case l_law_sum => k_is); (case cc_law_sum => k_is); (case k_law_sum => k_is); (case a_law_times => k_is)
    (case l_law_times => k_is); (case cc_law_times => k_is); (case k_law_times => k_is); (case a_law_two => k_is); (case l_law_two => k_is); (case cc_law_two => k_is)
    (case k_law_two => k_is); (case a_is_whole => k_is); (case l_is_whole => k_is); (case cc_is_whole => k_is); (case k_is_whole => k_is); (case a_divisor => k_is)
    (case l_divisor => k_is); (case cc_divisor => k_is); (case k_divisor => k_is); (case a_low => k_is); (case l_low => k_is); (case cc_low => k_is)
    (case k_low => k_is); (case a_ahead_all => k_is); (case l_ahead_all => k_is); (case cc_ahead_all => k_is); (case k_ahead_all => k_is); (case a_choose => k_is)
    (case l_choose => k_is); (case cc_choose => k_is); (case k_choose => k_is); (case a_look_at_steps => k_is); (case l_look_at_steps => k_is); (case cc_look_at_steps => k_is)
    (case k_look_at_steps => k_is); (case a_count_paths => k_is); (case l_count_paths => k_is); (case cc_count_paths => k_is); (case k_count_paths => k_is); (case a_count_above => k_is)
    (case l_count_above => k_is); (case cc_count_above => k_is); (case k_count_above => k_is); (case a_even_now => k_is); (case l_even_now => k_is); (case cc_even_now => k_is)
    (case k_even_now => k_is); (case a_over => k_is); (case l_over => k_is); (case cc_over => k_is); (case k_over => k_is); (case a_first_even => k_is)
    (case l_first_even => k_is); (case cc_first_even => k_is); (case k_first_even => k_is); (case a_highest => k_is); (case l_highest => k_is); (case cc_highest => k_is)
    (case k_highest => k_is); (case a_times => k_is); (case l_times => k_is); (case cc_times => k_is); (case k_times => k_is); (case a_last_even => k_is)
    (case l_last_even => k_is); (case cc_last_even => k_is); (case k_last_even => k_is); (case a_never_behind => k_is); (case l_never_behind => k_is); (case cc_never_behind => k_is)
    (case k_never_behind => k_is); (case a_law => k_is); (case l_law => k_is); (case cc_law => k_is); (case k_law => k_is)
#print axioms PySem.Challenge.cw_throwstold_k51_whole_paths_among_one_ano_holds
